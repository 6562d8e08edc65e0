import PyProof.Rows.All
import Wide.All
import OpenK.AllK
import Wide.FinOn
import HandS.ForMost
import HandS.Wide
import HandS.WideBits
import HandS.ExcCtx
import HandS.TupAny
import PyProof.ReprReads
import PyProof.Rows.RuleB_pow
import HandS.TupLe
import HandS.Star
import HandS.Zip
import HandS.Style
import HandS.SortInts
import HandS.RaiseMore
import HandS.IsInst
import PyProof.ReprRoads
import PyProof.CallFns
import HandS.Deep
import HandS.Conv
import HandS.Flow
import HandS.Property
import HandS.TryOnly
import KE.LtSeq
import HandS.FStr
import HandS.Exc
import HandS.ExcOwn
import HandS.ExcInit
import HandS.ExcField
import HandS.ExcIs
import KE.KExcIs
import KE.KDictKeyed
import HandS.Codes
import PySem.Challenge.RW_crankcarry_k00_errors_made
set_option Elab.async false
set_option linter.all false
set_option maxRecDepth 100000
set_option maxHeartbeats 4000000
/-! values without a heap: what a slot holds, how it lies in the heap, what an expression or a statement makes of it -/
namespace CK
open PySem PySem.Spec PyProof.Rows L2

abbrev SS := List (Option V)
/-- what is one's own: a list, an object of the law's class with these attributes, a dict with these keys -/
inductive Bt where
  | l
  | o (fs : List Str)
  | d (ks : List Key)
/-- what is told of an object that remembers -/
structure Inf where
  pl : Int
  a : PyData
  b : PyData
/-- a slot: unset, shared data, a thing of its own, a list that is only read, any other value, an object that remembers -/
inductive Sl where
  | no
  | im (d : PyData)
  | bx (t : Bt) (ds : List PyData)
  | fz (ds : List PyData)
  | raw (v : V)
  | mo (x : Inf)

/-- a key as data -/
def keyP : Key → PyData
  | .inl i => .int i
  | .inr x => .str x
/-- an exception that stands as it is -/
def EXo (a : Addr) (oe : Obj) : HO := .ext fun h => h.get? a = some oe
mutual
inductive Rp (K : PySem.W.Frag) (H : Hp) : V → PyData → Prop
  | non : Rp K H .non .none
  | bl (b : Bool) : Rp K H (.bl b) (.bool b)
  | int (i : Int) : Rp K H (.int i) (.int i)
  | str (x : Str) : Rp K H (.str x) (.str x)
  | lst {a : Addr} {xs : List V} {ds : List PyData} : H a = some (.lst xs) → RpAll K H xs ds → Rp K H (.ref a) (.list ds)
  | tup {a : Addr} {xs : List V} {ds : List PyData} : SqT K H a xs → RpAll K H xs ds → Rp K H (.ref a) (.tuple ds)
  | dic {a : Addr} {ks : List Key} {xs : List V} {ds : List PyData} : H a = some (.dK (ks.zip xs)) → RpAll K H xs ds → Rp K H (.ref a) (.dict ((ks.map keyP).zip ds))
  | exn {a C : Addr} {oe : Obj} {n : Str} : PySem.W.nsIn K mainGlobals n = some (some (.ref C)) → H a = some (EXo a oe) → L2N.Zn (.ref C) none oe → (∃ vs, oe.data = .fields vs) → Rp K H (.ref a) (.dict [(.none, .str n)])
  | exf {a C dd : Addr} {oe : Obj} {n f : Str} {v : V} {d : PyData} : PySem.W.nsIn K mainGlobals n = some (some (.ref C)) → H a = some (EXo a oe) → L2N.Zn (.ref C) (some dd) oe → (∃ vs, oe.data = .fields vs) → H dd = some (.xd [(f, v)]) → Rp K H v d → Rp K H (.ref a) (.dict [(.none, .str n), (.none, .tuple [.str f, d])])
inductive RpAll (K : PySem.W.Frag) (H : Hp) : List V → List PyData → Prop
  | nil : RpAll K H [] []
  | cons {v : V} {vs : List V} {d : PyData} {ds : List PyData} : Rp K H v d → RpAll K H vs ds → RpAll K H (v :: vs) (d :: ds)
end

section
variable {K : PySem.W.Frag} {G H H' : Hp}
theorem sqT_same (s : Same G H) {a : Addr} {xs : List V} (h : SqT K G a xs) : SqT K H a xs := by
  rcases h with (h | ⟨o, h⟩) | h
  · exact .inl (.inl (s _ _ h))
  · exact .inl (.inr ⟨o, s _ _ h⟩)
  · exact .inr h
mutual
theorem Rp.same (s : Same G H) : ∀ {v : V} {d : PyData}, Rp K G v d → Rp K H v d
  | _, _, .non => .non
  | _, _, .bl b => .bl b
  | _, _, .int i => .int i
  | _, _, .str x => .str x
  | _, _, .lst e r => .lst (s _ _ e) (RpAll.same s r)
  | _, _, .tup e r => .tup (sqT_same s e) (RpAll.same s r)
  | _, _, .dic e r => .dic (s _ _ e) (RpAll.same s r)
  | _, _, .exn e h z f => .exn e (s _ _ h) z f
  | _, _, .exf e h z f x r => .exf e (s _ _ h) z f (s _ _ x) (Rp.same s r)
theorem RpAll.same (s : Same G H) : ∀ {vs : List V} {ds : List PyData}, RpAll K G vs ds → RpAll K H vs ds
  | _, _, .nil => .nil
  | _, _, .cons a b => .cons (Rp.same s a) (RpAll.same s b)
end
mutual
theorem Rp.dp : ∀ {d : PyData} {v : V}, Rp K H v d → d.hasDict = false → Dp K H v d
  | .none, _, h, _ => by cases h; exact .non
  | .bool b, _, h, _ => by cases h; exact .bl b
  | .int i, _, h, _ => by cases h; exact .int i
  | .str x, _, h, _ => by cases h; exact .str x
  | .list ds, _, h, n => by cases h with | lst e r => exact .lst (SqL.of e) (RpAll.dp r (by simpa only [PyData.hasDict] using n))
  | .tuple ds, _, h, n => by cases h with | tup e r => exact .tup e (RpAll.dp r (by simpa only [PyData.hasDict] using n))
  | .dict _, _, h, n => by simp only [PyData.hasDict] at n; cases n
theorem RpAll.dp : ∀ {ds : List PyData} {vs : List V}, RpAll K H vs ds → PyData.hasDictAll ds = false → DpAll K H vs ds
  | [], _, h, _ => by cases h; exact .nil
  | d :: ds, _, h, n => by
    simp only [PyData.hasDictAll, Bool.or_eq_false_iff] at n
    cases h with | cons a b => exact .cons (Rp.dp a n.1) (RpAll.dp b n.2)
end
/-- data that can be compared hold no dict -/
theorem noDict_shaped {d : PyData} (h : SeqAt.shaped d = true) : d.hasDict = false := PyData.hasDict_of_canLay d (SeqAt.canLay_of_shaped h)
theorem RpAll.length : ∀ {vs : List V} {ds : List PyData}, RpAll K H vs ds → vs.length = ds.length
  | _, _, .nil => rfl
  | _, _, .cons _ t => congrArg (· + 1) (RpAll.length t)
theorem RpAll.get : ∀ {vs : List V} {ds : List PyData} {i : Nat} {d : PyData}, RpAll K H vs ds → ds[i]? = some d → ∃ v, vs[i]? = some v ∧ Rp K H v d
  | _, _, _, _, .nil, e => by simp at e
  | _, _, 0, _, .cons r _, e => by simp at e; subst e; exact ⟨_, rfl, r⟩
  | _, _, i + 1, d, .cons _ t, e => by
    obtain ⟨v, h1, h2⟩ := RpAll.get (i := i) (d := d) t (by simpa using e)
    exact ⟨v, by simpa using h1, h2⟩
theorem RpAll.get' : ∀ {vs : List V} {ds : List PyData} {i : Nat} {v : V}, RpAll K H vs ds → vs[i]? = some v → ∃ d, ds[i]? = some d ∧ Rp K H v d
  | _, _, _, _, .nil, e => by simp at e
  | _, _, 0, _, .cons r _, e => by simp at e; subst e; exact ⟨_, rfl, r⟩
  | _, _, i + 1, d, .cons _ t, e => by
    obtain ⟨v, h1, h2⟩ := RpAll.get' (i := i) (v := d) t (by simpa using e)
    exact ⟨v, by simpa using h1, h2⟩
theorem RpAll.append : ∀ {vs ws : List V} {ds es : List PyData}, RpAll K H vs ds → RpAll K H ws es → RpAll K H (vs ++ ws) (ds ++ es)
  | _, _, _, _, .nil, s => s
  | _, _, _, _, .cons r t, s => .cons r (RpAll.append t s)
theorem RpAll.take : ∀ {vs : List V} {ds : List PyData} (n : Nat), RpAll K H vs ds → RpAll K H (vs.take n) (ds.take n)
  | _, _, 0, _ => .nil
  | _, _, _ + 1, .nil => .nil
  | _, _, n + 1, .cons r t => .cons r (RpAll.take n t)
theorem RpAll.drop : ∀ {vs : List V} {ds : List PyData} (n : Nat), RpAll K H vs ds → RpAll K H (vs.drop n) (ds.drop n)
  | _, _, 0, r => r
  | _, _, _ + 1, .nil => .nil
  | _, _, n + 1, .cons _ t => RpAll.drop n t
theorem RpAll.set {v : V} {d : PyData} (r : Rp K H v d) : ∀ {vs : List V} {ds : List PyData} (i : Nat), RpAll K H vs ds → RpAll K H (vs.set i v) (ds.set i d)
  | _, _, _, .nil => .nil
  | _, _, 0, .cons _ t => .cons r t
  | _, _, i + 1, .cons q t => .cons q (RpAll.set r i t)
theorem RpAll.reverse : ∀ {vs : List V} {ds : List PyData}, RpAll K H vs ds → RpAll K H vs.reverse ds.reverse
  | _, _, .nil => .nil
  | _, _, .cons r t => by
    rw [List.reverse_cons, List.reverse_cons]
    exact RpAll.append (RpAll.reverse t) (.cons r .nil)
theorem RpAll.rep {vs : List V} {ds : List PyData} (h : RpAll K H vs ds) : ∀ n : Nat, RpAll K H (List.replicate n vs).flatten (List.replicate n ds).flatten
  | 0 => .nil
  | n + 1 => by
    rw [List.replicate_succ, List.replicate_succ, List.flatten_cons, List.flatten_cons]
    exact RpAll.append h (RpAll.rep h n)
/-- the ints of a list -/
theorem RpAll.ints : ∀ {ns : List Int} {vs : List V}, RpAll K H vs (ns.map PyData.int) → vs = ns.map V.int
  | [], _, h => by cases h; rfl
  | n :: ns, _, h => by
    cases h with
    | cons a b =>
      cases a
      rw [RpAll.ints b]; rfl
theorem RpAll.ofInts : ∀ (ns : List Int), RpAll K H (ns.map V.int) (ns.map PyData.int)
  | [] => .nil
  | n :: ns => .cons (.int n) (RpAll.ofInts ns)
theorem RpAll.bools : ∀ {ns : List Bool} {vs : List V}, RpAll K H vs (ns.map PyData.bool) → vs = ns.map V.bl
  | [], _, h => by cases h; rfl
  | n :: ns, _, h => by
    cases h with
    | cons a b =>
      cases a
      rw [RpAll.bools b]; rfl
end

/-- what may be written: lists, objects of the class at C, dicts -/
def Soft (C : Addr) (o : HO) : Prop := (∃ ws, o = .lst ws) ∨ (∃ dx fs, o = .ins C dx fs) ∨ ∃ kvs, o = .dK kvs
/-- none of the things that are known by their one object alone is shared newly -/
def Gn (G H G' : Hp) : Prop := ∀ a φ, H a = some (.ext φ) → G a = none → G' a = none
/-- what else is held of the heap, while none but lists and objects of the class C change -/
class Memo where
  C : Addr
  J : Hp → Hp → Prop
  stab : ∀ {G G' H H' : Hp}, J G H → Same G G' → (∀ a o, H a = some o → ¬ Soft C o → H' a = some o) → J G' H'
  W : Addr → Prop
  M : Hp → Hp → Addr → Inf → Prop
  mst : ∀ {G G' H H' : Hp} {p : Addr} {x : Inf}, M G H p x → Same G G' → Gn G H G' → (∀ a o, H a = some o → ¬ Soft C o → H' a = some o) → M G' H' p x
  mg : ∀ {G H : Hp} {p : Addr} {x : Inf}, M G H p x → G p ≠ none ∨ ∃ φ, H p = some (.ext φ)
/-- nothing is asked -/
class Triv (m : Memo) : Prop where
  all : ∀ G H, m.J G H
/-- nothing changes unseen -/
class Still (m : Memo) : Prop where
  st : ∀ a, ¬ m.W a
def plainAt (C : Addr) : Memo := ⟨C, fun _ _ => True, fun _ _ _ => trivial, fun _ => False, fun _ _ _ _ => False, fun h _ _ _ => h, fun h => h.elim⟩
def noW (m : Memo) : Memo := { m with W := fun _ => False }
instance (C : Addr) : Still (plainAt C) := ⟨fun _ z => z⟩
instance (m : Memo) : Still (noW m) := ⟨fun _ z => z⟩
instance (m : Memo) [Triv m] : Triv (noW m) := ⟨fun G H => Triv.all (m := m) G H⟩
instance (priority := 1) plainMemo : Memo := plainAt 0
instance (C : Addr) : Triv (plainAt C) := ⟨fun _ _ => trivial⟩
instance : Triv plainMemo := ⟨fun _ _ => trivial⟩
instance : Still plainMemo := ⟨fun _ z => z⟩
/-- what may change under a call: it is known by its one object alone -/
def VolO (o : HO) : Prop := ∃ φ, o = .ext φ
theorem volL {ws : List V} : ¬ VolO (.lst ws) := fun ⟨_, e⟩ => nomatch e
variable [Memo]
/-- how one's own thing lies -/
def Bx (H : Hp) (p : Addr) : Bt → List V → Prop
  | .l, ws => H p = some (.lst ws)
  | .o fs, ws => ∃ dx, H p = some (.ins Memo.C dx (fs.zip ws))
  | .d ks, ws => H p = some (.dK (ks.zip ws))
/-- what a slot tells of its value -/
def SlotOk (K : PySem.W.Frag) (G H : Hp) (o : Option V) : Sl → Prop
  | .no => True
  | .im d => ∃ v, o = some v ∧ Rp K G v d
  | .bx t ds => ∃ p ws, o = some (.ref p) ∧ Bx H p t ws ∧ G p = none ∧ RpAll K G ws ds
  | .fz ds => ∃ p ws, o = some (.ref p) ∧ SqL K G p ws ∧ RpAll K G ws ds
  | .raw v => o = some v
  | .mo x => ∃ p, o = some (.ref p) ∧ Memo.M G H p x
/-- an owned address -/
def Own (σ : SS) (δ : List Sl) (a : Addr) : Prop := ∃ (i : Nat) (t : Bt) (ds : List PyData), σ[i]? = some (some (.ref a)) ∧ δ[i]? = some (.bx t ds)
structure Rel (K : PySem.W.Frag) (G H : Hp) (σ : SS) (δ : List Sl) : Prop where
  sub : Same G H
  len : σ.length = δ.length
  slot : ∀ (i : Nat) (s : Sl), δ[i]? = some s → SlotOk K G H (σ[i]?.getD none) s
  inj : ∀ (i j : Nat) (p : Addr) (t u : Bt) (ds es : List PyData), σ[i]? = some (some (.ref p)) → δ[i]? = some (.bx t ds) → σ[j]? = some (some (.ref p)) → δ[j]? = some (.bx u es) → i = j
  inv : Memo.J G H
/-- what was not owned stays, and is not owned; nothing goes away; what is shared newly is new, or was owned -/
structure Stp (σ : SS) (δ : List Sl) (G H : Hp) (σ' : SS) (δ' : List Sl) (G' H' : Hp) : Prop where
  keep : ∀ a o, H a = some o → ¬ Own σ δ a → (¬ (VolO o ∧ Memo.W a) → H' a = some o) ∧ ¬ Own σ' δ' a
  dom : ∀ a, H' a = none → H a = none
  same : Same G G'
  grow : ∀ a o, G' a = some o → G a = some o ∨ H a = none ∨ Own σ δ a
section
variable {K : PySem.W.Frag} {G G' G'' H H' H'' : Hp} {σ σ' σ'' : SS} {δ δ' δ'' : List Sl}
theorem Stp.refl : Stp σ δ G H σ δ G H := ⟨fun _ _ e n => ⟨fun _ => e, n⟩, fun _ e => e, Same.refl _, fun _ _ e => .inl e⟩
theorem Stp.trans (a : Stp σ δ G H σ' δ' G' H') (b : Stp σ' δ' G' H' σ'' δ'' G'' H'') : Stp σ δ G H σ'' δ'' G'' H'' :=
  ⟨fun c o e n => ⟨fun nv => (b.keep c o ((a.keep c o e n).1 nv) (a.keep c o e n).2).1 nv, by
    cases hc : H' c with
    | none => rw [a.dom c hc] at e; cases e
    | some u => exact (b.keep c u hc (a.keep c o e n).2).2⟩, fun c e => a.dom c (b.dom c e), a.same.trans b.same, fun c o e => by
    rcases b.grow c o e with h | h | h
    · exact a.grow c o h
    · exact .inr (.inl (a.dom c h))
    · by_cases ho : Own σ δ c
      · exact .inr (.inr ho)
      · cases hc : H c with
        | none => exact .inr (.inl rfl)
        | some u => exact absurd h (a.keep c u hc ho).2⟩
theorem getD_some {α : Type} {o : Option (Option α)} {v : α} (h : o.getD none = some v) : o = some (some v) := by
  cases o with
  | none => cases h
  | some x => exact congrArg some h
theorem Rel.im (R : Rel K G H σ δ) {i : Nat} {d : PyData} (e : δ[i]? = some (.im d)) : ∃ v, σ[i]? = some (some v) ∧ Rp K G v d := by
  obtain ⟨v, h1, h2⟩ := R.slot i _ e
  exact ⟨v, getD_some h1, h2⟩
theorem Rel.bx (R : Rel K G H σ δ) {i : Nat} {t : Bt} {ds : List PyData} (e : δ[i]? = some (.bx t ds)) : ∃ p ws, σ[i]? = some (some (.ref p)) ∧ Bx H p t ws ∧ G p = none ∧ RpAll K G ws ds := by
  obtain ⟨p, ws, h1, h2⟩ := R.slot i _ e
  exact ⟨p, ws, getD_some h1, h2⟩
theorem Bx.at {p : Addr} {t : Bt} {ws : List V} (h : Bx H p t ws) : ∃ o, H p = some o ∧ ¬ VolO o ∧ ∀ H' : Hp, H' p = some o → Bx H' p t ws := by
  cases t with
  | l => exact ⟨_, h, volL, fun _ e => e⟩
  | o fs => obtain ⟨dx, h⟩ := h; exact ⟨_, h, (fun ⟨_, e⟩ => nomatch e), fun _ e => ⟨dx, e⟩⟩
  | d ks => exact ⟨_, h, (fun ⟨_, e⟩ => nomatch e), fun _ e => e⟩
theorem Bx.not {p : Addr} {t : Bt} {ws : List V} (h : Bx H p t ws) : H p ≠ none := by
  obtain ⟨o, e, _⟩ := h.at
  rw [e]; exact fun z => nomatch z
theorem Bx.upd {p a : Addr} {t : Bt} {ws : List V} {o : HO} (h : Bx H p t ws) (n : p ≠ a) : Bx (upd H a o) p t ws := by
  obtain ⟨u, e, _, k⟩ := h.at
  exact k _ (by rw [upd_ne n]; exact e)
/-- it may be changed -/
def Chg (H : Hp) (a : Addr) : Prop := ∀ o, H a = some o → Soft Memo.C o
theorem Bx.chg {p : Addr} {t : Bt} {ws : List V} (h : Bx H p t ws) : Chg H p := fun o e => by
  cases t with
  | l => exact .inl ⟨ws, by have h : H p = some (.lst ws) := h; rw [e] at h; cases h; rfl⟩
  | o fs => obtain ⟨dx, h⟩ := h; rw [e] at h; cases h; exact .inr (.inl ⟨_, _, rfl⟩)
  | d ks => exact .inr (.inr ⟨_, by have h : H p = some (.dK _) := h; rw [e] at h; cases h; rfl⟩)
theorem Rel.ow (R : Rel K G H σ δ) {i : Nat} {ds : List PyData} (e : δ[i]? = some (.bx .l ds)) : ∃ p ws, σ[i]? = some (some (.ref p)) ∧ H p = some (.lst ws) ∧ G p = none ∧ RpAll K G ws ds := by
  obtain ⟨p, ws, h1, h2⟩ := R.slot i _ e
  exact ⟨p, ws, getD_some h1, h2⟩
theorem Rel.fz (R : Rel K G H σ δ) {i : Nat} {ds : List PyData} (e : δ[i]? = some (.fz ds)) : ∃ p ws, σ[i]? = some (some (.ref p)) ∧ SqL K G p ws ∧ RpAll K G ws ds := by
  obtain ⟨p, ws, h1, h2⟩ := R.slot i _ e
  exact ⟨p, ws, getD_some h1, h2⟩
theorem Rel.raw (R : Rel K G H σ δ) {i : Nat} {v : V} (e : δ[i]? = some (.raw v)) : σ[i]? = some (some v) := getD_some (R.slot i _ e)
theorem Rel.gOwn (R : Rel K G H σ δ) {a : Addr} (h : Own σ δ a) : G a = none ∧ ∃ t ws, Bx H a t ws := by
  obtain ⟨i, t, ds, e1, e2⟩ := h
  obtain ⟨p, ws, h1, h2, h3, _⟩ := R.bx e2
  rw [e1] at h1; cases h1
  exact ⟨h3, t, ws, h2⟩
theorem Rel.notOwn (R : Rel K G H σ δ) {a : Addr} {o : HO} (h : G a = some o) : ¬ Own σ δ a := fun z => by
  rw [(R.gOwn z).1] at h; cases h
theorem Rel.freeOwn (R : Rel K G H σ δ) {a : Addr} (h : H a = none) : ¬ Own σ δ a := fun z => by
  obtain ⟨_, t, ws, e⟩ := R.gOwn z
  exact e.not h
theorem gfree (s : Same G H) {a : Addr} (h : H a = none) : G a = none := s.free h
theorem same_upd_new {a : Addr} {o : HO} (h : H a = none) : Same H (upd H a o) := fun b u e => by
  rw [upd_ne (ne_of_none e h)]; exact e
/-- what is neither a list nor one's own object stays -/
def Stay (H H' : Hp) : Prop := ∀ a o, H a = some o → ¬ Soft Memo.C o → H' a = some o
theorem stay_refl {H : Hp} : Stay H H := fun _ _ e _ => e
theorem stay_new {H : Hp} {a : Addr} {o : HO} (n : H a = none) : Stay H (upd H a o) := fun b u e _ => by rw [upd_ne (ne_of_none e n)]; exact e
theorem stay_chg {H : Hp} {a : Addr} {o : HO} (n : Chg H a) : Stay H (upd H a o) := fun b u e ns => by
  have : b ≠ a := fun z => by
    rw [z] at e
    exact ns (n u e)
  rw [upd_ne this]; exact e
theorem own_lst (R : Rel K G H σ δ) {a : Addr} {o : HO} (e : H a = some o) (ns : ¬ Soft Memo.C o) : ¬ Own σ δ a := fun z => by
  obtain ⟨_, t, ws, b⟩ := R.gOwn z
  exact ns (b.chg o e)
theorem Stp.stay [Still ‹Memo›] (st : Stp σ δ G H σ' δ' G' H') (R : Rel K G H σ δ) : Stay H H' := fun a o e ns => (st.keep a o e (own_lst R e ns)).1 fun z => Still.st _ z.2
theorem SlotOk.same {s : Sl} {o : Option V} (h : SlotOk K G H o s) (sg : Same G G') (k : ∀ p t ws ds, s = .bx t ds → Bx H p t ws → G p = none → o = some (.ref p) → Bx H' p t ws ∧ G' p = none) (km : ∀ x p, s = .mo x → o = some (.ref p) → Memo.M G H p x → Memo.M G' H' p x) : SlotOk K G' H' o s := by
  cases s with
  | no => trivial
  | im d => obtain ⟨v, e, r⟩ := h; exact ⟨v, e, r.same sg⟩
  | bx t ds =>
    obtain ⟨p, ws, e, h1, h2, r⟩ := h
    obtain ⟨k1, k2⟩ := k p t ws ds rfl h1 h2 e
    exact ⟨p, ws, e, k1, k2, r.same sg⟩
  | fz ds => obtain ⟨p, ws, e, q, r⟩ := h; exact ⟨p, ws, e, Same.seq sg q, r.same sg⟩
  | raw v => exact h
  | mo x => obtain ⟨p, e, m⟩ := h; exact ⟨p, e, km x p rfl e m⟩
theorem soft_ext {C : Addr} {φ : Heap → Prop} : ¬ Soft C (.ext φ) := by rintro (⟨_, z⟩ | ⟨_, _, z⟩ | ⟨_, z⟩) <;> cases z
theorem gn_refl {G H : Hp} : Gn G H G := fun _ _ _ e => e
theorem gn_share {G H : Hp} {a : Addr} {o : HO} (h : H a = some o) (hv : ¬ VolO o) : Gn G H (upd G a o) := fun b φ hb hg => by
  have : b ≠ a := fun z => by rw [z, h] at hb; cases hb; exact hv ⟨φ, rfl⟩
  rw [upd_ne this]; exact hg
theorem gn_stp (R : Rel K G H σ δ) (st : Stp σ δ G H σ' δ' G' H') : Gn G H G' := fun a φ hb hg => by
  cases hx : G' a with
  | none => rfl
  | some u =>
    rcases st.grow a u hx with z | z | z
    · rw [hg] at z; cases z
    · rw [hb] at z; cases z
    · exact absurd z (own_lst R hb soft_ext)
theorem mSt {G G' H H' : Hp} (sg : Same G G') (gn : Gn G H G') (s : Stay H H') {s0 : Sl} {o : Option V} : ∀ (x : Inf) (p : Addr), s0 = .mo x → o = some (.ref p) → Memo.M G H p x → Memo.M G' H' p x := fun _ _ _ _ m => Memo.mst m sg gn s
theorem jG {G G' H : Hp} (h : Memo.J G H) (sg : Same G G') : Memo.J G' H := Memo.stab h sg fun _ _ e _ => e
theorem jN {G H : Hp} {a : Addr} {o : HO} (h : Memo.J G H) (n : H a = none) : Memo.J G (upd H a o) := Memo.stab h (Same.refl _) fun b u e _ => by rw [upd_ne (ne_of_none e n)]; exact e
theorem jC {G H : Hp} {a : Addr} {o : HO} (h : Memo.J G H) (n : Chg H a) : Memo.J G (upd H a o) := Memo.stab h (Same.refl _) fun b u e ns => by
  have : b ≠ a := fun z => by
    rw [z] at e
    exact ns (n u e)
  rw [upd_ne this]; exact e
theorem jL {G H : Hp} {a : Addr} {o : HO} {ws : List V} (h : Memo.J G H) (n : H a = some (.lst ws)) : Memo.J G (upd H a o) := jC h fun u e => by rw [n] at e; cases e; exact .inl ⟨_, rfl⟩
/-- a new object, not shared -/
theorem Rel.new (R : Rel K G H σ δ) {a : Addr} {o : HO} (h : H a = none) : Rel K G (upd H a o) σ δ :=
  ⟨R.sub.trans (same_upd_new h), R.len, fun i s e => (R.slot i s e).same (Same.refl _) (fun p t ws ds _ h1 h2 _ => ⟨h1.upd fun z => h1.not (z ▸ h), h2⟩) (mSt (Same.refl _) gn_refl (stay_new h)), R.inj, jN R.inv h⟩
theorem Stp.new {a : Addr} {o : HO} (h : H a = none) : Stp σ δ G H σ δ G (upd H a o) :=
  ⟨fun b u e n => ⟨fun _ => by rw [upd_ne (ne_of_none e h)]; exact e, n⟩, fun b e => by
    by_cases hb : b = a
    · rw [hb]; exact h
    · rw [upd_ne hb] at e; exact e, Same.refl _, fun _ _ e => .inl e⟩
/-- .. and shared -/
theorem Stp.share {G0 H0 : Hp} {σ0 : SS} {δ0 : List Sl} (st : Stp σ0 δ0 G0 H0 σ δ G H) {a : Addr} {o : HO} (h0 : H0 a = none) (hg : G a = none) : Stp σ0 δ0 G0 H0 σ δ (upd G a o) H :=
  ⟨st.keep, st.dom, st.same.trans (same_upd_new hg), fun b u e => by
    by_cases hb : b = a
    · rw [hb]; exact .inr (.inl h0)
    · rw [upd_ne hb] at e; exact st.grow b u e⟩
/-- an object that is nobody's own becomes shared -/
theorem Rel.share (R : Rel K G H σ δ) {a : Addr} {o : HO} (h : H a = some o) (hn : ¬ Own σ δ a) (hg : G a = none) (hv : ¬ VolO o := by rintro ⟨_, z⟩; cases z) : Rel K (upd G a o) H σ δ ∧ Same G (upd G a o) := by
  have sg : Same G (upd G a o) := same_upd_new hg
  refine ⟨⟨fun b u e => ?_, R.len, fun i s e => ?_, R.inj, jG R.inv sg⟩, sg⟩
  · by_cases hb : b = a
    · subst hb; rw [upd_same] at e; cases e; exact h
    · rw [upd_ne hb] at e; exact R.sub _ _ e
  · cases s with
    | no => trivial
    | im d => obtain ⟨v, e1, r⟩ := R.slot i _ e; exact ⟨v, e1, r.same sg⟩
    | bx t ds =>
      obtain ⟨p, ws, e1, h1, h2, r⟩ := R.slot i _ e
      refine ⟨p, ws, e1, h1, ?_, r.same sg⟩
      have : p ≠ a := fun z => hn ⟨i, t, ds, by rw [← z]; exact getD_some e1, e⟩
      rw [upd_ne this]; exact h2
    | fz ds => obtain ⟨p, ws, e1, q, r⟩ := R.slot i _ e; exact ⟨p, ws, e1, Same.seq sg q, r.same sg⟩
    | raw v => exact R.slot i _ e
    | mo x => obtain ⟨p, e1, m⟩ := R.slot i _ e; exact ⟨p, e1, Memo.mst m sg (gn_share h hv) stay_refl⟩
/-- a new shared object -/
theorem Rel.newS (R : Rel K G H σ δ) {a : Addr} {o : HO} (h : H a = none) (hv : ¬ VolO o := by rintro ⟨_, z⟩; cases z) : Rel K (upd G a o) (upd H a o) σ δ ∧ Same G (upd G a o) := by
  have R1 : Rel K G (upd H a o) σ δ := R.new h
  exact R1.share upd_same (fun z => R.freeOwn h z) (gfree R.sub h) hv
/-- a slot is stored -/
theorem Rel.set (R : Rel K G H σ δ) {i : Nat} {v : V} {s : Sl} (h : SlotOk K G H (some v) s) (hn : ∀ p t ds, s = .bx t ds → v = .ref p → ¬ Own σ δ p) : Rel K G H (σ.set i (some v)) (δ.set i s) := by
  refine ⟨R.sub, by simpa using R.len, fun j t e => ?_, fun a b p tt uu ds es h1 h2 h3 h4 => ?_, R.inv⟩
  · by_cases hj : j = i
    · subst hj
      have hl : j < δ.length := by
        have := (List.getElem?_eq_some_iff.mp e).1
        simpa using this
      rw [List.getElem?_set_self hl] at e; cases e
      rw [List.getElem?_set_self (by rw [R.len]; exact hl)]
      exact h
    · rw [List.getElem?_set_ne (Ne.symm hj)] at e ⊢
      exact R.slot j t e
  · by_cases ha : a = i <;> by_cases hb : b = i
    · rw [ha, hb]
    · exfalso
      rw [List.getElem?_set_ne (Ne.symm hb)] at h3 h4
      subst ha
      have hl : a < δ.length := by
        have := (List.getElem?_eq_some_iff.mp h2).1
        simpa using this
      rw [List.getElem?_set_self hl] at h2
      rw [List.getElem?_set_self (by rw [R.len]; exact hl)] at h1
      cases h2; cases h1
      exact hn p tt ds rfl rfl ⟨b, uu, es, h3, h4⟩
    · exfalso
      rw [List.getElem?_set_ne (Ne.symm ha)] at h1 h2
      subst hb
      have hl : b < δ.length := by
        have := (List.getElem?_eq_some_iff.mp h4).1
        simpa using this
      rw [List.getElem?_set_self hl] at h4
      rw [List.getElem?_set_self (by rw [R.len]; exact hl)] at h3
      cases h4; cases h3
      exact hn p uu es rfl rfl ⟨a, tt, ds, h1, h2⟩
    · rw [List.getElem?_set_ne (Ne.symm ha)] at h1 h2
      rw [List.getElem?_set_ne (Ne.symm hb)] at h3 h4
      exact R.inj a b p tt uu ds es h1 h2 h3 h4
/-- the slot of a list of its own is only shared from now on -/
theorem Rel.freeze (R : Rel K G H σ δ) {i : Nat} {ds : List PyData} (e : δ[i]? = some (.bx .l ds)) :
    ∃ p ws, σ[i]? = some (some (.ref p)) ∧ H p = some (.lst ws) ∧ Rel K (upd G p (.lst ws)) H σ (δ.set i (.im (.list ds))) ∧ Same G (upd G p (.lst ws)) ∧ Rp K (upd G p (.lst ws)) (.ref p) (.list ds) ∧ Stp σ δ G H σ (δ.set i (.im (.list ds))) (upd G p (.lst ws)) H := by
  obtain ⟨p, ws, e1, h1, h2, r⟩ := R.ow e
  have sg : Same G (upd G p (.lst ws)) := same_upd_new h2
  have hl : i < δ.length := (List.getElem?_eq_some_iff.mp e).1
  have hO : ∀ a, Own σ (δ.set i (.im (.list ds))) a → Own σ δ a ∧ a ≠ p := by
    rintro a ⟨j, t, es, q1, q2⟩
    by_cases hj : j = i
    · subst hj; rw [List.getElem?_set_self hl] at q2; cases q2
    · rw [List.getElem?_set_ne (Ne.symm hj)] at q2
      refine ⟨⟨j, t, es, q1, q2⟩, fun z => ?_⟩
      rw [z] at q1
      exact hj (R.inj j i p t .l es ds q1 q2 e1 e)
  have rp : Rp K (upd G p (.lst ws)) (.ref p) (.list ds) := .lst upd_same (r.same sg)
  refine ⟨p, ws, e1, h1, ⟨fun b u q => ?_, by simpa using R.len, fun j s q => ?_, fun a b c tt uu d1 d2 q1 q2 q3 q4 => ?_, jG R.inv sg⟩, sg, rp, ⟨fun a o q n => ⟨fun _ => q, fun z => n (hO a z).1⟩, fun a q => q, sg, fun a o q => ?_⟩⟩
  · by_cases hb : b = p
    · subst hb; rw [upd_same] at q; cases q; exact h1
    · rw [upd_ne hb] at q; exact R.sub _ _ q
  · by_cases hj : j = i
    · subst hj
      rw [List.getElem?_set_self hl] at q; cases q
      exact ⟨.ref p, by rw [e1]; rfl, rp⟩
    · rw [List.getElem?_set_ne (Ne.symm hj)] at q
      cases s with
      | no => trivial
      | im d => obtain ⟨v, e2, r2⟩ := R.slot j _ q; exact ⟨v, e2, r2.same sg⟩
      | bx t es =>
        obtain ⟨p2, ws2, e2, k1, k2, r2⟩ := R.slot j _ q
        refine ⟨p2, ws2, e2, k1, ?_, r2.same sg⟩
        have : p2 ≠ p := fun z => hj (R.inj j i p t .l es ds (by rw [← z]; exact getD_some e2) q e1 e)
        rw [upd_ne this]; exact k2
      | fz es => obtain ⟨p2, ws2, e2, k1, r2⟩ := R.slot j _ q; exact ⟨p2, ws2, e2, Same.seq sg k1, r2.same sg⟩
      | raw v => exact R.slot j _ q
      | mo x => obtain ⟨p2, e2, m⟩ := R.slot j _ q; exact ⟨p2, e2, Memo.mst m sg (gn_share h1 volL) stay_refl⟩
  · have ne : ∀ {x : Nat} {t : Bt} {es : List PyData}, (δ.set i (.im (.list ds)))[x]? = some (.bx t es) → δ[x]? = some (.bx t es) := fun {x t es} z => by
      by_cases hx : x = i
      · subst hx; rw [List.getElem?_set_self hl] at z; cases z
      · rw [List.getElem?_set_ne (Ne.symm hx)] at z; exact z
    exact R.inj a b c tt uu d1 d2 q1 (ne q2) q3 (ne q4)
  · by_cases ha : a = p
    · rw [ha]; exact .inr (.inr ⟨i, .l, ds, e1, e⟩)
    · rw [upd_ne ha] at q; exact .inl q
/-- one's own thing is written -/
theorem Rel.writeB (R : Rel K G H σ δ) {i : Nat} {t t' : Bt} {ds es : List PyData} {p : Addr} {ws : List V} {o : HO} (e : δ[i]? = some (.bx t ds)) (e1 : σ[i]? = some (some (.ref p))) (hb : Bx (upd H p o) p t' ws) (r : RpAll K G ws es) :
    Rel K G (upd H p o) σ (δ.set i (.bx t' es)) ∧ Stp σ δ G H σ (δ.set i (.bx t' es)) G (upd H p o) := by
  have hl : i < δ.length := (List.getElem?_eq_some_iff.mp e).1
  obtain ⟨p', ws', e1', h1, h2, _⟩ := R.bx e
  rw [e1] at e1'; cases e1'
  have hO : ∀ a, Own σ (δ.set i (.bx t' es)) a → Own σ δ a := by
    rintro a ⟨j, u, d2, q1, q2⟩
    by_cases hj : j = i
    · subst hj; exact ⟨j, t, ds, q1, e⟩
    · rw [List.getElem?_set_ne (Ne.symm hj)] at q2
      exact ⟨j, u, d2, q1, q2⟩
  refine ⟨⟨fun b u q => ?_, by simpa using R.len, fun j s q => ?_, fun a b c tt uu d1 d2 q1 q2 q3 q4 => ?_, jC R.inv h1.chg⟩, ⟨fun a o q n => ⟨fun _ => ?_, fun z => n (hO a z)⟩, fun a q => ?_, Same.refl _, fun _ _ q => .inl q⟩⟩
  · have : b ≠ p := fun z => by rw [z, h2] at q; cases q
    rw [upd_ne this]; exact R.sub _ _ q
  · by_cases hj : j = i
    · subst hj
      rw [List.getElem?_set_self hl] at q; cases q
      exact ⟨p, ws, by rw [e1]; rfl, hb, h2, r⟩
    · rw [List.getElem?_set_ne (Ne.symm hj)] at q
      refine (R.slot j s q).same (Same.refl _) (fun p2 u w2 d2 hs k1 k2 k3 => ⟨?_, k2⟩) (mSt (Same.refl _) gn_refl (stay_chg h1.chg))
      subst hs
      have : p2 ≠ p := fun z => hj (R.inj j i p u t d2 ds (by rw [← z]; exact getD_some k3) q e1 e)
      exact k1.upd this
  · have ne : ∀ {x : Nat} {u : Bt} {d3 : List PyData}, (δ.set i (.bx t' es))[x]? = some (.bx u d3) → ∃ u4 d4, δ[x]? = some (.bx u4 d4) := fun {x u d3} z => by
      by_cases hx : x = i
      · subst hx; exact ⟨_, _, e⟩
      · rw [List.getElem?_set_ne (Ne.symm hx)] at z; exact ⟨_, _, z⟩
    obtain ⟨_, _, q2'⟩ := ne q2
    obtain ⟨_, _, q4'⟩ := ne q4
    exact R.inj a b c _ _ _ _ q1 q2' q3 q4'
  · have : a ≠ p := fun z => n ⟨i, t, ds, by rw [z]; exact e1, e⟩
    rw [upd_ne this]; exact q
  · by_cases z : a = p
    · rw [z, upd_same] at q; cases q
    · rw [upd_ne z] at q; exact q
/-- a list of its own is written -/
theorem Rel.write (R : Rel K G H σ δ) {i : Nat} {ds es : List PyData} {p : Addr} {ws : List V} (e : δ[i]? = some (.bx .l ds)) (e1 : σ[i]? = some (some (.ref p))) (r : RpAll K G ws es) :
    Rel K G (upd H p (.lst ws)) σ (δ.set i (.bx .l es)) ∧ Stp σ δ G H σ (δ.set i (.bx .l es)) G (upd H p (.lst ws)) := R.writeB e e1 (show Bx _ p .l ws from upd_same) r
end
end CK
/-! expressions -/
namespace CK
open PySem PySem.Spec PyProof.Rows L2
variable [Memo]

/-- what an expression makes of the slots -/
abbrev Ex := List Sl → Option (Sl × List Sl)
/-- a value as shared data -/
def Sl.sh : Sl → Option PyData
  | .im d => some d
  | .bx .l ds => some (.list ds)
  | _ => none
/-- .. or whatever else may be handed on -/
def Sl.arg : Sl → Option Sl
  | .im d => some (.im d)
  | .bx .l ds => some (.im (.list ds))
  | .raw v => some (.raw v)
  | .fz ds => some (.fz ds)
  | _ => none

/-- how a result lies: Hs the heap ahead -/
def RV (K : PySem.W.Frag) (G H Hs : Hp) (σ : SS) (δ : List Sl) (v : V) : Sl → Prop
  | .no => False
  | .im d => Rp K G v d
  | .bx t ds => ∃ p ws, v = .ref p ∧ Bx H p t ws ∧ G p = none ∧ ¬ Own σ δ p ∧ Hs p = none ∧ RpAll K G ws ds
  | .fz ds => ∃ p ws, v = .ref p ∧ SqL K G p ws ∧ RpAll K G ws ds
  | .raw u => v = u
  | .mo _ => False

/-- the reading of an expression -/
def tD (K : PySem.W.Frag) (F : Ex) : TE := fun σ H Q => ∃ (G : Hp) (δ : List Sl) (r : Sl) (δ' : List Sl), Rel K G H σ δ ∧ F δ = some (r, δ') ∧
  ∀ (v : V) (G' H' : Hp), Rel K G' H' σ δ' → Stp σ δ G H σ δ' G' H' → RV K G' H' H σ δ' v r → Q v H'
/-- the judgement -/
abbrev DE (X : Cx) (e : Expr) (F : Ex) : Prop := PE X e (tD X.K F)

theorem PE.by {X : Cx} {e : Expr} {t t' : TE} (h : PE X e t) (w : ∀ σ H Q, t' σ H Q → t σ H Q) : PE X e t' := ⟨fun pins s σ H Q I q => h.run pins s σ H Q I (w σ H Q q)⟩

section
variable {K : PySem.W.Frag} {G G' H H' Hs : Hp} {σ : SS} {δ δ' : List Sl}
/-- a result becomes shared data -/
theorem RV.shared {G0 : Hp} {δ0 : List Sl} {r : Sl} {d : PyData} {v : V} (R : Rel K G H σ δ) (st : Stp σ δ0 G0 Hs σ δ G H) (h : RV K G H Hs σ δ v r) (e : r.sh = some d) :
    ∃ G', Rel K G' H σ δ ∧ Stp σ δ0 G0 Hs σ δ G' H ∧ Same G G' ∧ Rp K G' v d := by
  cases r with
  | no => cases e
  | im x => cases e; exact ⟨G, R, st, Same.refl _, h⟩
  | bx t ds =>
    cases t with
    | o fs => cases e
    | d ks => cases e
    | l =>
    cases e
    obtain ⟨p, ws, rfl, h1, h2, h3, h4, r⟩ := h
    obtain ⟨R', sg⟩ := R.share h1 h3 h2
    exact ⟨_, R', st.share h4 h2, sg, .lst upd_same (r.same sg)⟩
  | fz ds => cases e
  | raw u => cases e
  | mo x => cases e
theorem RV.ahead {H1 : Hp} {σ0 : SS} {δ0 : List Sl} {r : Sl} {v : V} (h : RV K G H H1 σ δ v r) {G0 G1 : Hp} (st : Stp σ0 δ0 G0 Hs σ0 δ' G1 H1) : RV K G H Hs σ δ v r := by
  cases r with
  | bx t ds =>
    obtain ⟨p, ws, h1, h2, h3, h4, h5, h6⟩ := h
    exact ⟨p, ws, h1, h2, h3, h4, st.dom p h5, h6⟩
  | no => exact h
  | im d => exact h
  | fz d => exact h
  | raw d => exact h
  | mo x => exact h
/-- what is handed on -/
def AV (K : PySem.W.Frag) (G : Hp) (v : V) : Sl → Prop
  | .im d => Rp K G v d
  | .fz ds => ∃ p ws, v = .ref p ∧ SqL K G p ws ∧ RpAll K G ws ds
  | .raw u => v = u
  | _ => False
theorem AV.same {s : Sl} {v : V} (sg : Same G G') (h : AV K G v s) : AV K G' v s := by
  cases s with
  | no => exact h
  | im d => exact Rp.same sg h
  | bx t d => exact h
  | fz d => obtain ⟨p, ws, e, q, r⟩ := h; exact ⟨p, ws, e, Same.seq sg q, r.same sg⟩
  | raw u => exact h
  | mo x => exact h
theorem RV.argd {G0 : Hp} {δ0 : List Sl} {r a : Sl} {v : V} (R : Rel K G H σ δ) (st : Stp σ δ0 G0 Hs σ δ G H) (h : RV K G H Hs σ δ v r) (e : r.arg = some a) :
    ∃ G', Rel K G' H σ δ ∧ Stp σ δ0 G0 Hs σ δ G' H ∧ Same G G' ∧ AV K G' v a := by
  cases r with
  | no => cases e
  | im x => cases e; exact ⟨G, R, st, Same.refl _, h⟩
  | bx t ds =>
    cases t with
    | o fs => cases e
    | d ks => cases e
    | l =>
    cases e
    obtain ⟨G', R', st', sg, q⟩ := RV.shared (d := .list ds) R st (show RV K G H Hs σ δ v (.bx .l ds) from h) rfl
    exact ⟨G', R', st', sg, q⟩
  | fz ds => cases e; exact ⟨G, R, st, Same.refl _, h⟩
  | raw u => cases e; exact ⟨G, R, st, Same.refl _, h⟩
  | mo x => cases e
end

/-! ### names, constants -/
/-- a name: what is its own becomes shared -/
def dN (i : Nat) : Ex := fun δ => match δ[i]? with
  | some (.im d) => some (.im d, δ)
  | some (.bx .l ds) => some (.im (.list ds), δ.set i (.im (.list ds)))
  | some (.fz ds) => some (.fz ds, δ)
  | some (.raw v) => some (.raw v, δ)
  | _ => none
/-- a name for the last time: what is its own is handed on -/
def dMv (i : Nat) : Ex := fun δ => match δ[i]? with
  | some (.bx t ds) => some (.bx t ds, δ.set i .no)
  | _ => dN i δ
def dC (d : PyData) : Ex := fun δ => some (.im d, δ)
def dRaw (v : V) : Ex := fun δ => some (.raw v, δ)

section
variable {X : Cx}
theorem de_name (i : Nat) {x : Str} {pos : Pos} (hN : X.N[i]? = some x := by rfl) (hv : Vis X.env.scope x := by first | exact Or.inl rfl | exact Or.inr (Or.inl rfl) | exact Or.inr (Or.inr rfl)) (hd : (x == ("__debug__" : Str)) = false := by decide)
    (hcd : (x == ("__classdict__" : Str)) = false := by decide) : DE X (.Name x pos) (dN i) := by
  refine PE.by (pe_var hN hv hd hcd) fun σ H Q h => ?_
  obtain ⟨G, δ, r, δ', R, e, q⟩ := h
  unfold dN at e
  split at e
  · rename_i d hd
    cases e
    obtain ⟨v, e1, r1⟩ := R.im hd
    exact ⟨v, e1, q v G H R Stp.refl r1⟩
  · rename_i ds hd
    cases e
    obtain ⟨p, ws, e1, h1, R', sg, rp, st⟩ := R.freeze hd
    exact ⟨_, e1, q _ _ H R' st rp⟩
  · rename_i ds hd
    cases e
    obtain ⟨p, ws, e1, h1, r1⟩ := R.fz hd
    exact ⟨_, e1, q _ G H R Stp.refl ⟨p, ws, rfl, h1, r1⟩⟩
  · rename_i v hd
    cases e
    exact ⟨v, R.raw hd, q v G H R Stp.refl rfl⟩
  · cases e
theorem de_c {e : Expr} {v : V} {d : PyData} (h : PE X e (tC v)) (r : ∀ G, Rp X.K G v d) : DE X e (dC d) := by
  refine PE.by h fun σ H Q h => ?_
  obtain ⟨G, δ, r1, δ', R, e, q⟩ := h
  cases e
  exact q v G H R Stp.refl (r G)
theorem de_int {i j pos} : DE X (.Constant (.int i) j pos) (dC (.int i)) := de_c pe_int fun _ => .int i
theorem de_bl {i j pos} : DE X (.Constant (.bool i) j pos) (dC (.bool i)) := de_c pe_bl fun _ => .bl i
theorem de_non {j pos} : DE X (.Constant .none j pos) (dC .none) := de_c pe_non fun _ => .non
theorem de_str {i j pos} : DE X (.Constant (.str i) j pos) (dC (.str i)) := de_c pe_str fun _ => .str i
/-- a constant of the module -/
theorem de_glob {x : Str} {v : V} {d : PyData} {u : Value} {pos : Pos} (hg : Gl X x) (hm : X.mg x = some u) (r : RelV v u) (rd : ∀ G, Rp X.K G v d) (hd : (x == ("__debug__" : Str)) = false := by decide) : DE X (.Name x pos) (dC d) :=
  de_c (pe_glob hg hm r hd) rd
/-- a def or class of the module as a value -/
theorem de_raw {e : Expr} {v : V} (h : PE X e (tC v)) : DE X e (dRaw v) := by
  refine PE.by h fun σ H Q h => ?_
  obtain ⟨G, δ, r1, δ', R, e, q⟩ := h
  cases e
  exact q v G H R Stp.refl rfl
end

/-! ### operands: a name is read when the operation is done -/
inductive Od where
  | nm (i : Nat)
  | ex (F : Ex)
/-- a name's data, read -/
def rdN (δ : List Sl) (i : Nat) : Option PyData := match δ[i]? with
  | some (.im d) => some d
  | some (.bx .l ds) => some (.list ds)
  | _ => none
/-- how an operand lies: shared data, or a list that is read -/
def RT (K : PySem.W.Frag) (G H : Hp) (v : V) (d : PyData) : Prop := Rp K G v d ∨ ∃ p ws ds, v = .ref p ∧ d = .list ds ∧ H p = some (.lst ws) ∧ RpAll K G ws ds
theorem RT.same {K : PySem.W.Frag} {G G' H H' : Hp} {v : V} {d : PyData} (sg : Same G G') (sh : Same H H') (h : RT K G H v d) : RT K G' H' v d := by
  rcases h with h | ⟨p, ws, ds, e1, e2, q, r⟩
  · exact .inl (h.same sg)
  · exact .inr ⟨p, ws, ds, e1, e2, sh _ _ q, r.same sg⟩
/-- the first part of an operand's work: what is reckoned; a name waits -/
def Od.fst : Od → List Sl → Option (Option PyData × List Sl)
  | .nm i, δ => (rdN δ i).bind fun _ => some (none, δ)
  | .ex F, δ => (F δ).bind fun x => x.1.sh.bind fun d => some (some d, x.2)
/-- the last part -/
def Od.snd (o : Od) (p : Option PyData) (δ : List Sl) : Option PyData := match o, p with
  | .nm i, _ => rdN δ i
  | .ex _, some d => some d
  | .ex _, none => none
/-- the operand's own reading -/
def tO (K : PySem.W.Frag) : Od → TE
  | .nm i => tVar i
  | .ex F => tD K F
structure DO (X : Cx) (e : Expr) (o : Od) : Prop where
  pe : PE X e (tO X.K o)
section
variable {X : Cx}
theorem do_nm (i : Nat) {x : Str} {pos : Pos} (hN : X.N[i]? = some x := by rfl) (hv : Vis X.env.scope x := by first | exact Or.inl rfl | exact Or.inr (Or.inl rfl) | exact Or.inr (Or.inr rfl)) (hd : (x == ("__debug__" : Str)) = false := by decide)
    (hcd : (x == ("__classdict__" : Str)) = false := by decide) : DO X (.Name x pos) (.nm i) := ⟨pe_var hN hv hd hcd⟩
theorem do_ex {e : Expr} {F : Ex} (h : DE X e F) : DO X e (.ex F) := ⟨h⟩
end
/-- what waits for a name: its value -/
def OV (K : PySem.W.Frag) (G : Hp) (σ : SS) (v : V) : Od → Option PyData → Prop
  | .nm i, _ => σ[i]? = some (some v)
  | .ex _, some d => Rp K G v d
  | .ex _, none => False
theorem OV.same {K : PySem.W.Frag} {G G' : Hp} {σ : SS} {v : V} {o : Od} {p : Option PyData} (sg : Same G G') (h : OV K G σ v o p) : OV K G' σ v o p := by
  cases o with
  | nm i => exact h
  | ex F => cases p with | none => exact h | some d => exact Rp.same sg h
section
variable {K : PySem.W.Frag} {G H : Hp} {σ : SS} {δ δ' : List Sl}
theorem OV.rt {v : V} {o : Od} {p : Option PyData} {d : PyData} (R : Rel K G H σ δ) (h : OV K G σ v o p) (e : o.snd p δ = some d) : RT K G H v d := by
  cases o with
  | ex F => cases p with
    | none => cases e
    | some x => cases e; exact .inl h
  | nm i =>
    have e' : rdN δ i = some d := by cases p <;> exact e
    have h' : σ[i]? = some (some v) := by cases p <;> exact h
    unfold rdN at e'
    split at e'
    · rename_i x hx
      cases e'
      obtain ⟨u, e1, r1⟩ := R.im hx
      rw [h'] at e1; cases e1
      exact .inl r1
    · rename_i ds hx
      cases e'
      obtain ⟨p, ws, e1, h1, h2, r1⟩ := R.ow hx
      rw [h'] at e1; cases e1
      exact .inr ⟨p, ws, ds, rfl, rfl, h1, r1⟩
    · cases e'
theorem nm_val {i : Nat} {d : PyData} (R : Rel K G H σ δ) (e : rdN δ i = some d) : ∃ v, σ[i]? = some (some v) := by
  unfold rdN at e
  split at e
  · rename_i x hx; obtain ⟨v, e1, _⟩ := R.im hx; exact ⟨v, e1⟩
  · rename_i x hx; obtain ⟨p, ws, e1, _⟩ := R.ow hx; exact ⟨_, e1⟩
  · cases e
/-- an operand's first part runs -/
theorem tO_run {o : Od} {p : Option PyData} {Q : VK} (R : Rel K G H σ δ) (e : o.fst δ = some (p, δ'))
    (q : ∀ (v : V) (G' H' : Hp), Rel K G' H' σ δ' → Stp σ δ G H σ δ' G' H' → OV K G' σ v o p → Q v H') : tO K o σ H Q := by
  cases o with
  | nm i =>
    obtain ⟨d, e0, e⟩ := Option.bind_eq_some_iff.mp e
    cases e
    obtain ⟨v, e1⟩ := nm_val R e0
    exact ⟨v, e1, q v G H R Stp.refl e1⟩
  | ex F =>
    obtain ⟨⟨r, δ1⟩, h, e⟩ := Option.bind_eq_some_iff.mp (show (F δ).bind (fun x => x.1.sh.bind fun d => some (some d, x.2)) = some (p, δ') from e)
    obtain ⟨d, hs, e⟩ := Option.bind_eq_some_iff.mp e
    cases e
    refine ⟨G, δ, r, _, R, h, fun v G' H' R' st rv => ?_⟩
    obtain ⟨G2, R2, st2, _, rp⟩ := RV.shared R' st rv hs
    exact q v G2 H' R2 st2 rp
end

/-! ### one operand -/
def dOp1 (f : PyData → Option Sl) (a : Od) : Ex := fun δ => (a.fst δ).bind fun x => (a.snd x.1 x.2).bind fun d => (f d).bind fun r => some (r, x.2)
def dOp2 (f : PyData → PyData → Option Sl) (a b : Od) : Ex := fun δ => (a.fst δ).bind fun x => (b.fst x.2).bind fun y => (a.snd x.1 y.2).bind fun d => (b.snd y.1 y.2).bind fun e => (f d e).bind fun r => some (r, y.2)
def dOp3 (f : PyData → PyData → PyData → Option Sl) (a b c : Od) : Ex := fun δ => (a.fst δ).bind fun x => (b.fst x.2).bind fun y => (c.fst y.2).bind fun z =>
  (a.snd x.1 z.2).bind fun d => (b.snd y.1 z.2).bind fun e => (c.snd z.1 z.2).bind fun g => (f d e g).bind fun r => some (r, z.2)

theorem bind_some_of {α β : Type} {o : Option α} {f : α → Option β} {b : β} (h : o.bind f = some b) : ∃ a, o = some a ∧ f a = some b := by
  cases o with
  | none => cases h
  | some a => exact ⟨a, rfl, h⟩

section
variable {K : PySem.W.Frag}
/-- what an operation makes of its values: enough for the reading -/
theorem od1 {f : PyData → Option Sl} {a : Od} {σ : SS} {H : Hp} {Q : VK} {T : V → Hp → Prop} (h : tD K (dOp1 f a) σ H Q)
    (go : ∀ (G H1 : Hp) (δ : List Sl) (v : V) (d : PyData) (r : Sl), Rel K G H1 σ δ → RT K G H1 v d → f d = some r → (∀ (u : V) (G' H' : Hp), Rel K G' H' σ δ → Stp σ δ G H1 σ δ G' H' → RV K G' H' H1 σ δ u r → Q u H') → T v H1) :
    tO K a σ H T := by
  obtain ⟨G, δ, r, δ', R, e, q⟩ := h
  obtain ⟨⟨p, δ1⟩, e1, e⟩ := bind_some_of e
  obtain ⟨d, e2, e⟩ := bind_some_of e
  obtain ⟨r', e3, e⟩ := bind_some_of e
  cases e
  refine tO_run R e1 fun v G' H' R' st ov => ?_
  refine go G' H' _ v d r R' (ov.rt R' e2) e3 fun u G2 H2 R2 st2 rv => ?_
  exact q u G2 H2 R2 (st.trans st2) (rv.ahead st)
theorem od2 {f : PyData → PyData → Option Sl} {a b : Od} {σ : SS} {H : Hp} {Q : VK} {T : V → V → Hp → Prop} (h : tD K (dOp2 f a b) σ H Q)
    (go : ∀ (G H1 : Hp) (δ : List Sl) (v w : V) (d e : PyData) (r : Sl), Rel K G H1 σ δ → RT K G H1 v d → RT K G H1 w e → f d e = some r → (∀ (u : V) (G' H' : Hp), Rel K G' H' σ δ → Stp σ δ G H1 σ δ G' H' → RV K G' H' H1 σ δ u r → Q u H') → T v w H1) :
    tO K a σ H fun v H1 => tO K b σ H1 fun w H2 => T v w H2 := by
  obtain ⟨G, δ, r, δ', R, e, q⟩ := h
  obtain ⟨⟨p, δ1⟩, e1, e⟩ := bind_some_of e
  obtain ⟨⟨p2, δ2⟩, e2, e⟩ := bind_some_of e
  obtain ⟨d, e3, e⟩ := bind_some_of e
  obtain ⟨d2, e4, e⟩ := bind_some_of e
  obtain ⟨r', e5, e⟩ := bind_some_of e
  cases e
  refine tO_run R e1 fun v G' H' R' st ov => ?_
  refine tO_run R' e2 fun w G2 H2 R2 st2 ov2 => ?_
  refine go G2 H2 _ v w d d2 r R2 ((ov.same st2.same).rt R2 e3) (ov2.rt R2 e4) e5 fun u G3 H3 R3 st3 rv => ?_
  exact q u G3 H3 R3 ((st.trans st2).trans st3) (rv.ahead (st.trans st2))
end
end CK
/-! operations by data -/
namespace CK
open PySem PySem.Spec PyProof.Rows L2
variable [Memo]

abbrev iD (i : Int) : Option Sl := some (.im (.int i))
abbrev bD (b : Bool) : Option Sl := some (.im (.bool b))
/-- a text, n times -/
def repS (n : Nat) (x : Str) : Str := ⟨(List.replicate n x.cps.toList).flatten.toArray⟩
theorem repS_fold (x : Str) : ∀ (k : Nat) (acc : List Nat), List.foldl (fun a b => a ++ b) acc.toArray (List.replicate k x.cps) = (acc ++ (List.replicate k x.cps.toList).flatten).toArray
  | 0, acc => by simp
  | k + 1, acc => by
    rw [List.replicate_succ, List.foldl_cons, show acc.toArray ++ x.cps = (acc ++ x.cps.toList).toArray by simp, repS_fold x k, List.replicate_succ, List.flatten_cons, List.append_assoc]
theorem repS_zero (x : Str) : repS 0 x = Str.empty := rfl
theorem repS_one (x : Str) : repS 1 x = x := by
  obtain ⟨a⟩ := x
  show Str.mk _ = Str.mk _
  congr 1
  simp
theorem repS_nil {x : Str} (h : x.length = 0) (n : Nat) : repS n x = x := by
  obtain ⟨a⟩ := x
  have : a.toList = [] := by simpa [Str.length] using h
  show Str.mk _ = Str.mk _
  congr 1
  show ((List.replicate n a.toList).flatten.toArray) = a
  rw [this]
  have : a = #[] := by simpa [Str.length] using h
  rw [this]
  induction n with
  | zero => rfl
  | succ n ih => rw [List.replicate_succ, List.flatten_cons]; simpa using ih
theorem op_repS {X : Cx} : OpR X (binaryOp .Mult) (fun x y H Q => ∃ a k, x = .str a ∧ y = .int k ∧ -(2 ^ 63) ≤ k ∧ k < 2 ^ 63 ∧ a.length * k.toNat ≤ sizeLine ∧ Q (.str (repS k.toNat a)) H) := by
  intro pins s σ H x y v u Q I rx ry h
  obtain ⟨a, k, rfl, rfl, h1, h2, hz, q⟩ := h
  obtain ⟨t, rfl⟩ := rx
  obtain ⟨t', rfl⟩ := ry
  refine P.mul_str (by rw [decide_eq_false (by omega), decide_eq_false (by omega)]; rfl) (fun e1 e2 => ?_) (fun _ _ => ?_) ?_
  · have e3 : (a.length : Int) * k ≤ sizeLine := by
      have : ((a.length * k.toNat : Nat) : Int) ≤ sizeLine := by exact_mod_cast hz
      rw [Int.natCast_mul, Int.toNat_of_nonneg (by omega)] at this
      exact this
    have e4 : (a.length : Int) ≤ (2 ^ 63 - 1) / k := by
      rw [Int.le_ediv_iff_mul_le (by omega)]
      have : (sizeLine : Int) ≤ 2 ^ 63 - 1 := by decide
      omega
    omega
  · unfold Builtin.Str.tooLong
    rw [decide_eq_false_iff_not]
    omega
  · have key : ∀ (w : Value) (s' : Shared) , True := fun _ _ => trivial
    by_cases e1 : k < 1
    · rw [if_pos e1]
      rw [show k.toNat = 0 by omega, repS_zero] at q
      exact ⟨by decide, .str Str.empty, H, I.tok _, ⟨_, rfl⟩, q⟩
    · rw [if_neg e1]
      by_cases e2 : (k == 1 || a.length == 0) = true
      · rw [if_pos e2]
        have e3 : repS k.toNat a = a := by
          rcases Bool.or_eq_true_iff.mp e2 with e | e
          · rw [show k.toNat = 1 by have := eq_of_beq e; omega, repS_one]
          · exact repS_nil (eq_of_beq e) _
        rw [e3] at q
        exact ⟨.str a, H, I, ⟨_, rfl⟩, q⟩
      · rw [if_neg e2]
        have e3 : (⟨(List.replicate k.toNat a.cps).foldl (· ++ ·) #[]⟩ : Str) = repS k.toNat a := by
          have := repS_fold a k.toNat []
          rw [List.nil_append] at this
          exact congrArg Str.mk this
        rw [e3]
        refine ⟨?_, .str (repS k.toNat a), H, I.tok _, ⟨_, rfl⟩, q⟩
        rw [← e3]
        exact fits_reps (by unfold Builtin.Str.tooLong; rw [decide_eq_false_iff_not]; omega)
/-- how many items or signs at most -/
abbrev LINE : Nat := 16777216
theorem line_eq : (sizeLine : Nat) = LINE := rfl

def addD : PyData → PyData → Option Sl
  | .int i, .int j => iD (i + j)
  | .str a, .str b => if a.length + b.length ≤ LINE then some (.im (.str (a ++ b))) else none
  | .list a, .list b => if a.length + b.length ≤ LINE then some (.bx .l (a ++ b)) else none
  | .tuple a, .tuple b => if a.length + b.length ≤ LINE then some (.im (.tuple (a ++ b))) else none
  | _, _ => none
def subD : PyData → PyData → Option Sl
  | .int i, .int j => iD (i - j)
  | _, _ => none
def mulD : PyData → PyData → Option Sl
  | .int i, .int j => if i.natAbs.log2 + j.natAbs.log2 < 1000000 then iD (i * j) else none
  | .list a, .int k => if -(2 ^ 63) ≤ k ∧ k < 2 ^ 63 ∧ a.length * k.toNat ≤ LINE then some (.bx .l (List.replicate k.toNat a).flatten) else none
  | .str a, .int k => if -(2 ^ 63) ≤ k ∧ k < 2 ^ 63 ∧ a.length * k.toNat ≤ LINE then some (.im (.str (repS k.toNat a))) else none
  | _, _ => none
def modD : PyData → PyData → Option Sl
  | .int i, .int j => if 0 < j then iD (i % j) else none
  | _, _ => none
def fdivD : PyData → PyData → Option Sl
  | .int i, .int j => if 0 < j ∧ j.natAbs.log2 < 9000 then iD (i / j) else none
  | _, _ => none
def powD : PyData → PyData → Option Sl
  | .int i, .int j => if 0 ≤ j ∧ (i.natAbs.log2 + 1 : Int) * j ≤ 2 ^ 27 then iD (i ^ j.toNat) else none
  | _, _ => none
def negD : PyData → Option Sl
  | .int i => iD (-i)
  | _ => none

section
variable {K : PySem.W.Frag} {G H : Hp} {v : V}
theorem RT.int {i : Int} (h : RT K G H v (.int i)) : v = .int i := by
  rcases h with h | ⟨_, _, _, _, e, _⟩
  · cases h; rfl
  · cases e
theorem RT.str {i : Str} (h : RT K G H v (.str i)) : v = .str i := by
  rcases h with h | ⟨_, _, _, _, e, _⟩
  · cases h; rfl
  · cases e
theorem RT.bl {i : Bool} (h : RT K G H v (.bool i)) : v = .bl i := by
  rcases h with h | ⟨_, _, _, _, e, _⟩
  · cases h; rfl
  · cases e
theorem RT.non (h : RT K G H v .none) : v = .non := by
  rcases h with h | ⟨_, _, _, _, e, _⟩
  · cases h; rfl
  · cases e
theorem RT.lst {ds : List PyData} (s : Same G H) (h : RT K G H v (.list ds)) : ∃ p ws, v = .ref p ∧ H p = some (.lst ws) ∧ RpAll K G ws ds := by
  rcases h with h | ⟨p, ws, ds', e1, e, q, r⟩
  · cases h with | lst q r => exact ⟨_, _, rfl, s _ _ q, r⟩
  · cases e; exact ⟨p, ws, e1, q, r⟩
theorem RT.tup {ds : List PyData} (s : Same G H) (h : RT K G H v (.tuple ds)) : ∃ p ws, v = .ref p ∧ SqT K H p ws ∧ RpAll K G ws ds := by
  rcases h with h | ⟨p, ws, ds', e1, e, q, r⟩
  · cases h with | tup q r => exact ⟨_, _, rfl, sqT_same s q, r⟩
  · cases e
theorem RT.dp {d : PyData} (s : Same G H) (h : RT K G H v d) (n : d.hasDict = false) : Dp K H v d := by
  rcases h with h | ⟨p, ws, ds', e1, e, q, r⟩
  · exact (h.same s).dp n
  · subst e; subst e1; exact .lst (SqL.of q) ((r.same s).dp (by simpa only [PyData.hasDict] using n))
end

/-- what is wanted behind an operation -/
abbrev Want (K : PySem.W.Frag) (G H : Hp) (σ : SS) (δ : List Sl) (r : Sl) (Q : VK) : Prop :=
  ∀ (u : V) (G' H' : Hp), Rel K G' H' σ δ → Stp σ δ G H σ δ G' H' → RV K G' H' H σ δ u r → Q u H'
section
variable {K : PySem.W.Frag} {G H : Hp} {σ : SS} {δ : List Sl} {Q : VK}
theorem Want.im {d : PyData} {u : V} (q : Want K G H σ δ (.im d) Q) (R : Rel K G H σ δ) (r : Rp K G u d) : Q u H := q u G H R Stp.refl r
theorem Want.int {i : Int} (q : Want K G H σ δ (.im (.int i)) Q) (R : Rel K G H σ δ) : Q (.int i) H := q.im R (.int i)
theorem Want.bl {i : Bool} (q : Want K G H σ δ (.im (.bool i)) Q) (R : Rel K G H σ δ) : Q (.bl i) H := q.im R (.bl i)
theorem Want.str {i : Str} (q : Want K G H σ δ (.im (.str i)) Q) (R : Rel K G H σ δ) : Q (.str i) H := q.im R (.str i)
theorem Want.ow {ds : List PyData} {ws : List V} (q : Want K G H σ δ (.bx .l ds) Q) (R : Rel K G H σ δ) (r : RpAll K G ws ds) : ∀ p, H p = none → Q (.ref p) (upd H p (.lst ws)) := fun p hp =>
  q (.ref p) G _ (R.new hp) (Stp.new hp) ⟨p, ws, rfl, upd_same, gfree R.sub hp, R.freeOwn hp, hp, r⟩
theorem Want.tup {ds : List PyData} {ws : List V} (q : Want K G H σ δ (.im (.tuple ds)) Q) (R : Rel K G H σ δ) (r : RpAll K G ws ds) : ∀ p, H p = none → Q (.ref p) (upd H p (.tup ws)) := fun p hp => by
  obtain ⟨R2, sg⟩ := R.newS (o := .tup ws) hp
  exact q (.ref p) _ _ R2 ((Stp.new (G := G) hp).share hp (gfree R.sub hp)) (.tup (SqT.of upd_same) (r.same sg))
end

section
variable {X : Cx} {a b : Expr} {oa ob : Od} {pos : Pos}
theorem de_op {op : Operator} {r : R2} {f : PyData → PyData → Option Sl} (ho : OpR X (binaryOp op) r)
    (hf : ∀ (G H : Hp) (σ : SS) (δ : List Sl) (Q : VK) (v w : V) (d e : PyData) (z : Sl), Rel X.K G H σ δ → RT X.K G H v d → RT X.K G H w e → f d e = some z → Want X.K G H σ δ z Q → r v w H Q)
    (ha : DO X a oa) (hb : DO X b ob) : DE X (.BinOp a op b pos) (dOp2 f oa ob) :=
  PE.by (pe_op ho ha.pe hb.pe) fun σ H Q h => od2 h fun G H1 δ v w d e z R r1 r2 e3 q => hf G H1 σ δ Q v w d e z R r1 r2 e3 q
theorem of_ite {c : Prop} [Decidable c] {α : Type} {x z : α} (h : (if c then some x else none) = some z) : c ∧ x = z := by
  by_cases hc : c
  · rw [if_pos hc] at h; exact ⟨hc, Option.some.inj h⟩
  · rw [if_neg hc] at h; cases h
theorem lenS {H G : Hp} {K : PySem.W.Frag} {ws : List V} {ds : List PyData} (r : RpAll K G ws ds) : ws.length = ds.length := r.length
theorem de_add (ha : DO X a oa) (hb : DO X b ob) : DE X (.BinOp a .Add b pos) (dOp2 addD oa ob) := by
  refine de_op (OpR.or op_add (OpR.or op_add_str (OpR.or op_cat op_catA))) (fun G H σ δ Q v w d e z R r1 r2 h q => ?_) ha hb
  unfold addD at h
  split at h
  · cases h; exact .inl ⟨_, _, r1.int, r2.int, q.int R⟩
  · obtain ⟨hc, rfl⟩ := of_ite h
    exact .inr (.inl ⟨_, _, r1.str, r2.str, hc, q.str R⟩)
  · obtain ⟨hc, rfl⟩ := of_ite h
    obtain ⟨p, ws, e1, h1, s1⟩ := r1.lst R.sub
    obtain ⟨p2, ws2, e2, h2, s2⟩ := r2.lst R.sub
    exact .inr (.inr (.inl ⟨p, p2, ws, ws2, e1, e2, h1, h2, by rw [s1.length, s2.length]; exact hc, q.ow R (s1.append s2)⟩))
  · obtain ⟨hc, rfl⟩ := of_ite h
    obtain ⟨p, ws, rfl, h1, s1⟩ := r1.tup R.sub
    obtain ⟨p2, ws2, rfl, h2, s2⟩ := r2.tup R.sub
    refine .inr (.inr (.inr ⟨p, p2, ws, ws2, rfl, rfl, h1, h2, by rw [s1.length, s2.length]; exact hc, fun e => ?_, fun e1 e => ?_, fun e1 e2 => ?_⟩))
    · subst e; cases s1
      rcases r2 with r2 | ⟨_, _, _, _, e, _⟩
      · exact q.im R r2
      · cases e
    · subst e; cases s2
      rw [List.append_nil] at q
      rcases r1 with r1 | ⟨_, _, _, _, e, _⟩
      · exact q.im R r1
      · cases e
    · exact q.tup R (s1.append s2)
  · cases h
theorem de_sub (ha : DO X a oa) (hb : DO X b ob) : DE X (.BinOp a .Sub b pos) (dOp2 subD oa ob) := by
  refine de_op op_sub (fun G H σ δ Q v w d e z R r1 r2 h q => ?_) ha hb
  unfold subD at h
  split at h
  · cases h; exact ⟨_, _, r1.int, r2.int, q.int R⟩
  · cases h
theorem de_mul (ha : DO X a oa) (hb : DO X b ob) : DE X (.BinOp a .Mult b pos) (dOp2 mulD oa ob) := by
  refine de_op (OpR.or op_mulW (OpR.or op_rep op_repS)) (fun G H σ δ Q v w d e z R r1 r2 h q => ?_) ha hb
  unfold mulD at h
  split at h
  · obtain ⟨hc, rfl⟩ := of_ite h
    exact .inl ⟨_, _, r1.int, r2.int, hc, q.int R⟩
  · obtain ⟨hc, rfl⟩ := of_ite h
    obtain ⟨p, ws, e1, h1, s1⟩ := r1.lst R.sub
    exact .inr (.inl ⟨p, _, ws, e1, r2.int, h1, hc.1, hc.2.1, by rw [s1.length]; exact hc.2.2, q.ow R (s1.rep _)⟩)
  · obtain ⟨hc, rfl⟩ := of_ite h
    exact .inr (.inr ⟨_, _, r1.str, r2.int, hc.1, hc.2.1, hc.2.2, q.str R⟩)
  · cases h
theorem de_mod (ha : DO X a oa) (hb : DO X b ob) : DE X (.BinOp a .Mod b pos) (dOp2 modD oa ob) := by
  refine de_op op_mod (fun G H σ δ Q v w d e z R r1 r2 h q => ?_) ha hb
  unfold modD at h
  split at h
  · obtain ⟨hc, rfl⟩ := of_ite h
    exact ⟨_, _, r1.int, r2.int, hc, q.int R⟩
  · cases h
theorem de_fdiv (ha : DO X a oa) (hb : DO X b ob) : DE X (.BinOp a .FloorDiv b pos) (dOp2 fdivD oa ob) := by
  refine de_op op_fdivW (fun G H σ δ Q v w d e z R r1 r2 h q => ?_) ha hb
  unfold fdivD at h
  split at h
  · obtain ⟨hc, rfl⟩ := of_ite h
    exact ⟨_, _, r1.int, r2.int, hc, q.int R⟩
  · cases h
theorem intBits_le (i : Int) : (Builtin.Int.intBits i : Int) ≤ i.natAbs.log2 + 1 := by
  unfold Builtin.Int.intBits
  split <;> omega
theorem op_powX : OpR X (binaryOp .Pow) (rI (fun i j => 0 ≤ j ∧ (i.natAbs.log2 + 1 : Int) * j ≤ 2 ^ 27) fun i j => .int (i ^ j.toNat)) := opI fun i j _ _ _ _ _ hc q =>
  pow_int hc.1 (Int.le_trans (Int.mul_le_mul_of_nonneg_right (intBits_le i) hc.1) hc.2) q
theorem de_pow (ha : DO X a oa) (hb : DO X b ob) : DE X (.BinOp a .Pow b pos) (dOp2 powD oa ob) := by
  refine de_op op_powX (fun G H σ δ Q v w d e z R r1 r2 h q => ?_) ha hb
  unfold powD at h
  split at h
  · obtain ⟨hc, rfl⟩ := of_ite h
    exact ⟨_, _, r1.int, r2.int, hc, q.int R⟩
  · cases h
theorem de_neg (ha : DO X a oa) : DE X (.UnaryOp .USub a pos) (dOp1 negD oa) := by
  refine PE.by (pe_un un_neg ha.pe) fun σ H Q h => od1 h fun G H1 δ v d z R r1 e3 q => ?_
  unfold negD at e3
  split at e3
  · cases e3; exact ⟨_, r1.int, Want.int q R⟩
  · cases e3
end

/-! ### comparisons -/
def eqD : PyData → PyData → Option Bool
  | .int i, .int j => some (decide (i = j))
  | .str i, .str j => some (decide (i = j))
  | .bool i, .bool j => some (decide (i = j))
  | .none, .none => some true
  | .int _, .none => some false
  | .none, .int _ => some false
  | d, e => if SeqAt.shaped d = true ∧ SeqAt.shaped e = true then some (PyData.eqv d e) else none
def cmpI (p : Int → Int → Bool) : PyData → PyData → Option Bool
  | .int i, .int j => some (p i j)
  | _, _ => none
def ltD := cmpI fun i j => decide (i < j)
def leD := cmpI fun i j => decide (i ≤ j)
def gtD := cmpI fun i j => decide (j < i)
def geD := cmpI fun i j => decide (j ≤ i)
def isD : PyData → PyData → Option Bool
  | .none, .none => some true
  | .int _, .none => some false
  | .str _, .none => some false
  | .bool _, .none => some false
  | .list _, .none => some false
  | .tuple _, .none => some false
  | .bool a, .bool b => some (decide (a = b))
  | _, _ => none
def blD (f : PyData → PyData → Option Bool) (d e : PyData) : Option Sl := (f d e).bind fun b => bD b
def nbD (f : PyData → PyData → Option Bool) (d e : PyData) : Option Sl := (f d e).bind fun b => bD (!b)
section
variable {X : Cx} {a b : Expr} {oa ob : Od} {pos : Pos}
theorem de_cmp {op : CmpOp} {r : R2} {f : PyData → PyData → Option Sl} (ho : OpR X (compareOp op) r) (hm : behindInMarks op b = false)
    (hf : ∀ (G H : Hp) (σ : SS) (δ : List Sl) (Q : VK) (v w : V) (d e : PyData) (z : Sl), Rel X.K G H σ δ → RT X.K G H v d → RT X.K G H w e → f d e = some z → Want X.K G H σ δ z Q → r v w H Q)
    (ha : DO X a oa) (hb : DO X b ob) : DE X (.Compare a [op] [b] pos) (dOp2 f oa ob) :=
  PE.by (pe_cmpR ho ha.pe hb.pe hm) fun σ H Q h => od2 h fun G H1 δ v w d e z R r1 r2 e3 q => hf G H1 σ δ Q v w d e z R r1 r2 e3 q
theorem de_cmpI {op : CmpOp} {p : Int → Int → Bool} (ho : OpR X (compareOp op) (rI0 fun i j => .bl (p i j))) (hm : behindInMarks op b = false) (ha : DO X a oa) (hb : DO X b ob) : DE X (.Compare a [op] [b] pos) (dOp2 (blD (cmpI p)) oa ob) := by
  refine de_cmp ho hm (fun G H σ δ Q v w d e z R r1 r2 h q => ?_) ha hb
  unfold blD cmpI at h
  split at h
  · cases h; exact ⟨_, _, r1.int, r2.int, q.bl R⟩
  · cases h
theorem de_lt (ha : DO X a oa) (hb : DO X b ob) : DE X (.Compare a [.Lt] [b] pos) (dOp2 (blD ltD) oa ob) := de_cmpI op_lt (nomark _) ha hb
theorem de_le (ha : DO X a oa) (hb : DO X b ob) : DE X (.Compare a [.LtE] [b] pos) (dOp2 (blD leD) oa ob) := de_cmpI op_le (nomark _) ha hb
theorem de_gt (ha : DO X a oa) (hb : DO X b ob) : DE X (.Compare a [.Gt] [b] pos) (dOp2 (blD gtD) oa ob) := de_cmpI op_gt (nomark _) ha hb
theorem de_ge (ha : DO X a oa) (hb : DO X b ob) : DE X (.Compare a [.GtE] [b] pos) (dOp2 (blD geD) oa ob) := de_cmpI op_ge (nomark _) ha hb
theorem dcI {i j : Int} : decide (V.int i = V.int j) = decide (i = j) := decide_eq_decide.mpr ⟨fun e => V.int.inj e, fun e => congrArg _ e⟩
theorem dcS {i j : Str} : decide (V.str i = V.str j) = decide (i = j) := decide_eq_decide.mpr ⟨fun e => V.str.inj e, fun e => congrArg _ e⟩
theorem dcB {i j : Bool} : decide (V.bl i = V.bl j) = decide (i = j) := decide_eq_decide.mpr ⟨fun e => V.bl.inj e, fun e => congrArg _ e⟩
theorem eq_go {K : PySem.W.Frag} {G H : Hp} {σ : SS} {δ : List Sl} {Q : VK} {v w : V} {d e : PyData} {c : Bool} (R : Rel K G H σ δ) (r1 : RT K G H v d) (r2 : RT K G H w e) (h : eqD d e = some c) (q : Q (.bl c) H) : rEq v w H Q ∨ rEqD K v w H Q := by
  unfold eqD at h
  split at h
  · cases h; cases r1.int; cases r2.int
    exact .inl ⟨rfl, by rw [dcI]; exact q⟩
  · cases h; cases r1.str; cases r2.str
    exact .inl ⟨rfl, by rw [dcS]; exact q⟩
  · cases h; cases r1.bl; cases r2.bl
    exact .inl ⟨rfl, by rw [dcB]; exact q⟩
  · cases h; cases r1.non; cases r2.non
    exact .inl ⟨rfl, q⟩
  · cases h; cases r1.int; cases r2.non
    exact .inl ⟨rfl, q⟩
  · cases h; cases r1.non; cases r2.int
    exact .inl ⟨rfl, q⟩
  · obtain ⟨⟨h1, h2⟩, rfl⟩ := of_ite h
    exact .inr ⟨_, _, r1.dp R.sub (noDict_shaped h1), r2.dp R.sub (noDict_shaped h2), h1, h2, q⟩
theorem ne_go {K : PySem.W.Frag} {G H : Hp} {σ : SS} {δ : List Sl} {Q : VK} {v w : V} {d e : PyData} {c : Bool} (R : Rel K G H σ δ) (r1 : RT K G H v d) (r2 : RT K G H w e) (h : eqD d e = some c) (q : Q (.bl (!c)) H) : rNe v w H Q ∨ rNeD K v w H Q := by
  unfold eqD at h
  split at h
  · cases h; cases r1.int; cases r2.int
    exact .inl ⟨rfl, by rw [dcI]; exact q⟩
  · cases h; cases r1.str; cases r2.str
    exact .inl ⟨rfl, by rw [dcS]; exact q⟩
  · cases h; cases r1.bl; cases r2.bl
    exact .inl ⟨rfl, by rw [dcB]; exact q⟩
  · cases h; cases r1.non; cases r2.non
    exact .inl ⟨rfl, q⟩
  · cases h; cases r1.int; cases r2.non
    exact .inl ⟨rfl, q⟩
  · cases h; cases r1.non; cases r2.int
    exact .inl ⟨rfl, q⟩
  · obtain ⟨⟨h1, h2⟩, rfl⟩ := of_ite h
    exact .inr ⟨_, _, r1.dp R.sub (noDict_shaped h1), r2.dp R.sub (noDict_shaped h2), h1, h2, q⟩
theorem de_eq (hu : X.A.units + 64 < cLine) (ha : DO X a oa) (hb : DO X b ob) : DE X (.Compare a [.Eq] [b] pos) (dOp2 (blD eqD) oa ob) := by
  refine de_cmp (OpR.or op_eq (op_eqD hu)) (nomark _) (fun G H σ δ Q v w d e z R r1 r2 h q => ?_) ha hb
  obtain ⟨c, h', hz⟩ := bind_some_of h
  cases hz
  exact eq_go R r1 r2 h' (q.bl R)
theorem de_ne (hu : X.A.units + 64 < cLine) (ha : DO X a oa) (hb : DO X b ob) : DE X (.Compare a [.NotEq] [b] pos) (dOp2 (nbD eqD) oa ob) := by
  refine de_cmp (OpR.or op_ne (op_neD hu)) (nomark _) (fun G H σ δ Q v w d e z R r1 r2 h q => ?_) ha hb
  obtain ⟨c, h', hz⟩ := bind_some_of h
  cases hz
  exact ne_go R r1 r2 h' (q.bl R)
end
end CK
/-! tests, statements -/
namespace CK
open PySem PySem.Spec PyProof.Rows L2
variable [Memo]

/-! ### tests -/
abbrev Tt := List Sl → Option (Bool × List Sl)
def tT (K : PySem.W.Frag) (F : Tt) : TT := fun σ H Q => ∃ (G : Hp) (δ : List Sl) (b : Bool) (δ' : List Sl), Rel K G H σ δ ∧ F δ = some (b, δ') ∧
  ∀ (G' H' : Hp), Rel K G' H' σ δ' → Stp σ δ G H σ δ' G' H' → Q b H'
abbrev DT (X : Cx) (e : Expr) (F : Tt) : Prop := PT X e (tT X.K F)
abbrev DW (X : Cx) (e : Expr) (F : Tt) : Prop := PW X e (tT X.K F)
theorem PT.by {X : Cx} {e : Expr} {t t' : TT} (h : PT X e t) (w : ∀ σ H Q, t' σ H Q → t σ H Q) : PT X e t' := ⟨fun pins s σ H Q I q => h.run pins s σ H Q I (w σ H Q q)⟩
theorem PW.by {X : Cx} {e : Expr} {t t' : TT} (h : PW X e t) (w : ∀ σ H Q, t' σ H Q → t σ H Q) : PW X e t' := ⟨fun wh pins s σ H Q I q => h.run wh pins s σ H Q I (w σ H Q q)⟩
/-- a bool result -/
def Sl.bool : Sl → Option Bool
  | .im (.bool b) => some b
  | _ => none
/-- truth of data -/
def truD : PyData → Option Bool
  | .bool b => some b
  | .int i => some (decide (i ≠ 0))
  | .str s => some (decide (0 < s.length))
  | .none => some false
  | .list ds => some (!ds.isEmpty)
  | .tuple ds => some (!ds.isEmpty)
  | _ => none
def tOfE (F : Ex) : Tt := fun δ => (F δ).bind fun x => x.1.bool.bind fun b => some (b, x.2)
def tAndD (f g : Tt) : Tt := fun δ => (f δ).bind fun x => if x.1 = true then g x.2 else some (false, x.2)
def tOrD (f g : Tt) : Tt := fun δ => (f δ).bind fun x => if x.1 = true then some (true, x.2) else g x.2
def tNotD (f : Tt) : Tt := fun δ => (f δ).bind fun x => some (!x.1, x.2)
def eOfT (f : Tt) : Ex := fun δ => (f δ).bind fun x => some (.im (.bool x.1), x.2)
def dIfE (c : Tt) (f g : Ex) : Ex := fun δ => (c δ).bind fun x => if x.1 = true then f x.2 else g x.2

section
variable {K : PySem.W.Frag} {G H : Hp} {σ : SS} {δ : List Sl}
theorem tT_bind {f : Tt} {b : Bool} {δ1 : List Sl} {Q : Bool → Hp → Prop} (R : Rel K G H σ δ) (e : f δ = some (b, δ1)) (q : ∀ G' H', Rel K G' H' σ δ1 → Stp σ δ G H σ δ1 G' H' → Q b H') : tT K f σ H Q :=
  ⟨G, δ, b, δ1, R, e, q⟩
/-- what is wanted behind an expression, from the start -/
theorem tD_run {F : Ex} {r : Sl} {δ1 : List Sl} {Q : VK} (R : Rel K G H σ δ) (e : F δ = some (r, δ1)) (q : ∀ v G' H', Rel K G' H' σ δ1 → Stp σ δ G H σ δ1 G' H' → RV K G' H' H σ δ1 v r → Q v H') : tD K F σ H Q :=
  ⟨G, δ, r, δ1, R, e, q⟩
end

section
variable {X : Cx} {a b : Expr} {oa ob : Od} {pos : Pos} {tA tB : Tt} {rest : List Expr}
theorem bool_rv {K : PySem.W.Frag} {G H Hs : Hp} {σ : SS} {δ : List Sl} {v : V} {r : Sl} {b : Bool} (h : RV K G H Hs σ δ v r) (e : r.bool = some b) : v = .bl b := by
  unfold Sl.bool at e
  split at e
  · cases e
    cases h; rfl
  · cases e
/-- a comparison as a test -/
theorem dt_cmp {op : CmpOp} {r : R2} {f : PyData → PyData → Option Bool} (ho : OpR X (compareOp op) r) (hm : behindInMarks op b = false)
    (hf : ∀ (G H : Hp) (σ : SS) (δ : List Sl) (Q : VK) (v w : V) (d e : PyData) (z : Bool), Rel X.K G H σ δ → RT X.K G H v d → RT X.K G H w e → f d e = some z → Q (.bl z) H → r v w H Q)
    (ha : DO X a oa) (hb : DO X b ob) : DT X (.Compare a [op] [b] pos) (tOfE (dOp2 (blD f) oa ob)) := by
  refine PT.by (pt_cmpR ho ha.pe hb.pe hm) fun σ H Q h => ?_
  obtain ⟨G, δ, b, δ', R, e, q⟩ := h
  obtain ⟨⟨r1, δ1⟩, e1, e⟩ := bind_some_of e
  obtain ⟨b1, e2, e⟩ := bind_some_of e
  cases e
  refine od2 (tD_run R e1 (Q := fun v H1 => ∃ k, v = .bl k ∧ Q k H1) fun v G' H' R' st rv => ⟨b, bool_rv rv e2, q G' H' R' st⟩) fun G H1 δ v w d e z R r1 r2 e3 q => ?_
  obtain ⟨c, e4, hz⟩ := bind_some_of e3
  cases hz
  exact hf G H1 σ δ _ v w d e c R r1 r2 e4 (Want.bl q R)
theorem dt_cmpI {op : CmpOp} {p : Int → Int → Bool} (ho : OpR X (compareOp op) (rI0 fun i j => .bl (p i j))) (hm : behindInMarks op b = false) (ha : DO X a oa) (hb : DO X b ob) : DT X (.Compare a [op] [b] pos) (tOfE (dOp2 (blD (cmpI p)) oa ob)) := by
  refine dt_cmp ho hm (fun G H σ δ Q v w d e z R r1 r2 h q => ?_) ha hb
  unfold cmpI at h
  split at h
  · cases h; exact ⟨_, _, r1.int, r2.int, q⟩
  · cases h
theorem dt_lt (ha : DO X a oa) (hb : DO X b ob) : DT X (.Compare a [.Lt] [b] pos) (tOfE (dOp2 (blD ltD) oa ob)) := dt_cmpI op_lt (nomark _) ha hb
theorem dt_le (ha : DO X a oa) (hb : DO X b ob) : DT X (.Compare a [.LtE] [b] pos) (tOfE (dOp2 (blD leD) oa ob)) := dt_cmpI op_le (nomark _) ha hb
theorem dt_gt (ha : DO X a oa) (hb : DO X b ob) : DT X (.Compare a [.Gt] [b] pos) (tOfE (dOp2 (blD gtD) oa ob)) := dt_cmpI op_gt (nomark _) ha hb
theorem dt_ge (ha : DO X a oa) (hb : DO X b ob) : DT X (.Compare a [.GtE] [b] pos) (tOfE (dOp2 (blD geD) oa ob)) := dt_cmpI op_ge (nomark _) ha hb
def neD (d e : PyData) : Option Bool := (eqD d e).bind fun b => some (!b)
theorem dt_eq (hu : X.A.units + 64 < cLine) (ha : DO X a oa) (hb : DO X b ob) : DT X (.Compare a [.Eq] [b] pos) (tOfE (dOp2 (blD eqD) oa ob)) :=
  dt_cmp (OpR.or op_eq (op_eqD hu)) (nomark _) (fun G H σ δ Q v w d e z R r1 r2 h q => eq_go R r1 r2 h q) ha hb
theorem dt_ne (hu : X.A.units + 64 < cLine) (ha : DO X a oa) (hb : DO X b ob) : DT X (.Compare a [.NotEq] [b] pos) (tOfE (dOp2 (blD neD) oa ob)) :=
  dt_cmp (OpR.or op_ne (op_neD hu)) (nomark _) (fun G H σ δ Q v w d e z R r1 r2 h q => by
    obtain ⟨c, h', hz⟩ := bind_some_of h
    cases hz
    exact ne_go R r1 r2 h' q) ha hb
theorem isD_some {K : PySem.W.Frag} {G H : Hp} {v w : V} {d e : PyData} {z : Bool} (r1 : RT K G H v d) (r2 : RT K G H w e) (h : isD d e = some z) : (w = .non ∧ z = decide (v = .non)) ∨ ∃ a b, v = .bl a ∧ w = .bl b ∧ z = decide (a = b) := by
  have hl : ∀ {ds : List PyData}, RT K G H v (.list ds) → v ≠ .non := fun {ds} r => by
    rcases r with r | ⟨p, ws, ds, e1, _⟩
    · cases r; intro z; cases z
    · rw [e1]; intro z; cases z
  have ht : ∀ {ds : List PyData}, RT K G H v (.tuple ds) → v ≠ .non := fun {ds} r => by
    rcases r with r | ⟨p, ws, ds, e1, e2, _⟩
    · cases r; intro z; cases z
    · cases e2
  unfold isD at h
  split at h
  · cases h; exact .inl ⟨r2.non, by rw [r1.non]; rfl⟩
  · cases h; exact .inl ⟨r2.non, by rw [r1.int]; rfl⟩
  · cases h; exact .inl ⟨r2.non, by rw [r1.str]; rfl⟩
  · cases h; exact .inl ⟨r2.non, by rw [r1.bl]; rfl⟩
  · cases h; exact .inl ⟨r2.non, by rw [decide_eq_false (hl r1)]⟩
  · cases h; exact .inl ⟨r2.non, by rw [decide_eq_false (ht r1)]⟩
  · cases h; exact .inr ⟨_, _, r1.bl, r2.bl, rfl⟩
  · cases h
theorem dt_is (ha : DO X a oa) (hb : DO X b ob) : DT X (.Compare a [.Is] [b] pos) (tOfE (dOp2 (blD isD) oa ob)) :=
  dt_cmp (OpR.or op_isN op_is_bl) (nomark _) (fun G H σ δ Q v w d e z R r1 r2 h q => by
    rcases isD_some r1 r2 h with ⟨h1, rfl⟩ | ⟨x, y, h1, h2, rfl⟩
    · exact .inl ⟨h1, q⟩
    · exact .inr ⟨x, y, h1, h2, q⟩) ha hb
def isnD (d e : PyData) : Option Bool := (isD d e).bind fun b => some (!b)
theorem dt_isn (ha : DO X a oa) (hb : DO X b ob) : DT X (.Compare a [.IsNot] [b] pos) (tOfE (dOp2 (blD isnD) oa ob)) :=
  dt_cmp (OpR.or op_notN op_isnot_bl) (nomark _) (fun G H σ δ Q v w d e z R r1 r2 h q => by
    obtain ⟨c, h', hz⟩ := bind_some_of h
    cases hz
    rcases isD_some r1 r2 h' with ⟨h1, rfl⟩ | ⟨x, y, h1, h2, rfl⟩
    · exact .inl ⟨h1, q⟩
    · exact .inr ⟨x, y, h1, h2, q⟩) ha hb
theorem de_is (ha : DO X a oa) (hb : DO X b ob) : DE X (.Compare a [.Is] [b] pos) (dOp2 (blD isD) oa ob) := by
  refine de_cmp (OpR.or op_isN op_is_bl) (nomark _) (fun G H σ δ Q v w d e z R r1 r2 h q => ?_) ha hb
  obtain ⟨c, h', hz⟩ := bind_some_of h
  cases hz
  rcases isD_some r1 r2 h' with ⟨h1, rfl⟩ | ⟨x, y, h1, h2, rfl⟩
  · exact .inl ⟨h1, q.bl R⟩
  · exact .inr ⟨x, y, h1, h2, q.bl R⟩
theorem de_isn (ha : DO X a oa) (hb : DO X b ob) : DE X (.Compare a [.IsNot] [b] pos) (dOp2 (nbD isD) oa ob) := by
  refine de_cmp (OpR.or op_notN op_isnot_bl) (nomark _) (fun G H σ δ Q v w d e z R r1 r2 h q => ?_) ha hb
  obtain ⟨c, h', hz⟩ := bind_some_of h
  cases hz
  rcases isD_some r1 r2 h' with ⟨h1, rfl⟩ | ⟨x, y, h1, h2, rfl⟩
  · exact .inl ⟨h1, q.bl R⟩
  · exact .inr ⟨x, y, h1, h2, q.bl R⟩
/-- a value that is a bool, as a test -/
theorem dt_val {e : Expr} {F : Ex} (h : DE X e F) (he : ∀ whole, isTrue e X.env whole = (do let v ← whole; standAt e.pos; holding [v] (truthy v)) := by intro _; rfl) : DT X e (tOfE F) := by
  refine PT.by (pt_val h he) fun σ H Q h => ?_
  obtain ⟨G, δ, b, δ', R, e, q⟩ := h
  obtain ⟨⟨r1, δ1⟩, e1, e⟩ := bind_some_of e
  obtain ⟨b1, e2, e⟩ := bind_some_of e
  cases e
  exact tD_run R e1 fun v G' H' R' st rv => ⟨b, bool_rv rv e2, q G' H' R' st⟩
theorem dw_and1 (ha : DT X a tA) : DW X (.BoolOp .And [a] pos) tA := pw_and1 ha
theorem dw_or1 (ha : DT X a tA) : DW X (.BoolOp .Or [a] pos) tA := pw_or1 ha
theorem dw_and (ha : DT X a tA) (hb : DW X (.BoolOp .And (b :: rest) pos) tB) : DW X (.BoolOp .And (a :: b :: rest) pos) (tAndD tA tB) := by
  refine PW.by (pw_and ha hb) fun σ H Q h => ?_
  obtain ⟨G, δ, b, δ', R, e, q⟩ := h
  obtain ⟨⟨c, δ1⟩, e1, e⟩ := bind_some_of e
  refine tT_bind R e1 fun G1 H1 R1 st1 => ?_
  cases c with
  | true =>
    rw [if_pos rfl] at e ⊢
    exact tT_bind R1 e fun G2 H2 R2 st2 => q G2 H2 R2 (st1.trans st2)
  | false =>
    rw [if_neg Bool.false_ne_true] at e ⊢
    cases e
    exact q G1 H1 R1 st1
theorem dw_or (ha : DT X a tA) (hb : DW X (.BoolOp .Or (b :: rest) pos) tB) : DW X (.BoolOp .Or (a :: b :: rest) pos) (tOrD tA tB) := by
  refine PW.by (pw_or ha hb) fun σ H Q h => ?_
  obtain ⟨G, δ, b, δ', R, e, q⟩ := h
  obtain ⟨⟨c, δ1⟩, e1, e⟩ := bind_some_of e
  refine tT_bind R e1 fun G1 H1 R1 st1 => ?_
  cases c with
  | false =>
    rw [if_neg Bool.false_ne_true] at e ⊢
    exact tT_bind R1 e fun G2 H2 R2 st2 => q G2 H2 R2 (st1.trans st2)
  | true =>
    rw [if_pos rfl] at e ⊢
    cases e
    exact q G1 H1 R1 st1
theorem dt_w {e : Expr} (h : DW X e tA) : DT X e tA := h.pt
theorem dt_not (ha : DT X a tA) : DT X (.UnaryOp .Not a pos) (tNotD tA) := by
  refine PT.by (pt_not ha) fun σ H Q h => ?_
  obtain ⟨G, δ, b, δ', R, e, q⟩ := h
  obtain ⟨⟨c, δ1⟩, e1, e⟩ := bind_some_of e
  cases e
  exact tT_bind R e1 fun G1 H1 R1 st1 => q G1 H1 R1 st1
/-- and, or, not as values -/
def dAnd (f g : Ex) : Ex := fun δ => (f δ).bind fun x => x.1.bool.bind fun c => if c = true then g x.2 else some (.im (.bool false), x.2)
def dOr (f g : Ex) : Ex := fun δ => (f δ).bind fun x => x.1.bool.bind fun c => if c = true then some (.im (.bool true), x.2) else g x.2
def dNot (f : Ex) : Ex := fun δ => (f δ).bind fun x => x.1.bool.bind fun c => some (.im (.bool (!c)), x.2)
variable {fA fB : Ex}
theorem de_one {op} (h : DE X a fA) : DE X (.BoolOp op [a] pos) fA := pe_one h
theorem de_and (ha : DE X a fA) (hb : DE X (.BoolOp .And (b :: rest) pos) fB) : DE X (.BoolOp .And (a :: b :: rest) pos) (dAnd fA fB) := by
  refine PE.by (pe_and ha hb) fun σ H Q h => ?_
  obtain ⟨G, δ, r, δ', R, e, q⟩ := h
  obtain ⟨⟨r1, δ1⟩, e1, e⟩ := bind_some_of e
  obtain ⟨c, e2, e⟩ := bind_some_of e
  refine tD_run R e1 fun v G1 H1 R1 st1 rv => ⟨c, bool_rv rv e2, ?_⟩
  cases c with
  | true =>
    rw [if_pos rfl] at e ⊢
    exact tD_run R1 e fun u G2 H2 R2 st2 rv2 => q u G2 H2 R2 (st1.trans st2) (rv2.ahead st1)
  | false =>
    rw [if_neg Bool.false_ne_true] at e ⊢
    cases e
    exact q _ G1 H1 R1 st1 (.bl false)
theorem de_or (ha : DE X a fA) (hb : DE X (.BoolOp .Or (b :: rest) pos) fB) : DE X (.BoolOp .Or (a :: b :: rest) pos) (dOr fA fB) := by
  refine PE.by (pe_or ha hb) fun σ H Q h => ?_
  obtain ⟨G, δ, r, δ', R, e, q⟩ := h
  obtain ⟨⟨r1, δ1⟩, e1, e⟩ := bind_some_of e
  obtain ⟨c, e2, e⟩ := bind_some_of e
  refine tD_run R e1 fun v G1 H1 R1 st1 rv => ⟨c, bool_rv rv e2, ?_⟩
  cases c with
  | false =>
    rw [if_neg Bool.false_ne_true] at e ⊢
    exact tD_run R1 e fun u G2 H2 R2 st2 rv2 => q u G2 H2 R2 (st1.trans st2) (rv2.ahead st1)
  | true =>
    rw [if_pos rfl] at e ⊢
    cases e
    exact q _ G1 H1 R1 st1 (.bl true)
theorem de_not (ha : DE X a fA) : DE X (.UnaryOp .Not a pos) (dNot fA) := by
  refine PE.by (pe_not ha) fun σ H Q h => ?_
  obtain ⟨G, δ, r, δ', R, e, q⟩ := h
  obtain ⟨⟨r1, δ1⟩, e1, e⟩ := bind_some_of e
  obtain ⟨c, e2, e⟩ := bind_some_of e
  cases e
  exact tD_run R e1 fun v G1 H1 R1 st1 rv => ⟨c, bool_rv rv e2, q _ G1 H1 R1 st1 (.bl _)⟩
theorem de_if {c : Expr} {fC : Tt} (hc : DT X c fC) (ha : DE X a fA) (hb : DE X b fB) : DE X (.IfExp c a b pos) (dIfE fC fA fB) := by
  refine PE.by (pe_ifExp hc ha hb) fun σ H Q h => ?_
  obtain ⟨G, δ, r, δ', R, e, q⟩ := h
  obtain ⟨⟨c, δ1⟩, e1, e⟩ := bind_some_of e
  refine tT_bind R e1 fun G1 H1 R1 st1 => ?_
  cases c with
  | false =>
    rw [if_neg Bool.false_ne_true] at e ⊢
    exact tD_run R1 e fun u G2 H2 R2 st2 rv2 => q u G2 H2 R2 (st1.trans st2) (rv2.ahead st1)
  | true =>
    rw [if_pos rfl] at e ⊢
    exact tD_run R1 e fun u G2 H2 R2 st2 rv2 => q u G2 H2 R2 (st1.trans st2) (rv2.ahead st1)
end

/-! ### statements -/
inductive Fl where
  | nx | bk | ct
  | rt (r : Sl)
abbrev Sm := List Sl → Option (Fl × List Sl)
/-- the pinned slots keep their values -/
def Pin (P : List Nat) (σ σ' : SS) : Prop := ∀ i ∈ P, σ'[i]? = σ[i]?
/-- how a result that is given back lies: a list of one's own may be given away -/
def RW (K : PySem.W.Frag) (G H Hs : Hp) (σ0 : SS) (δ0 : List Sl) (σ : SS) (δ : List Sl) (v : V) : Sl → Prop
  | .bx t ds => ∃ p ws, v = .ref p ∧ Bx H p t ws ∧ G p = none ∧ ¬ Own σ δ p ∧ (Hs p = none ∨ Own σ0 δ0 p) ∧ RpAll K G ws ds
  | r => RV K G H Hs σ δ v r
def endOf (K : PySem.W.Frag) (G H Hs : Hp) (σ0 : SS) (δ0 : List Sl) (σ : SS) (δ : List Sl) (D : Ends) : Fl → Prop
  | .nx => D.nx σ H
  | .bk => D.bk σ H
  | .ct => D.ct σ H
  | .rt r => ∀ v, RW K G H Hs σ0 δ0 σ δ v r → D.rt v H
theorem RV.give {K : PySem.W.Frag} {G H Hs : Hp} {σ0 : SS} {δ0 : List Sl} {σ : SS} {δ : List Sl} {v : V} {r : Sl} (h : RV K G H Hs σ δ v r) : RW K G H Hs σ0 δ0 σ δ v r := by
  cases r with
  | bx t ds =>
    obtain ⟨p, ws, h1, h2, h3, h4, h5, h6⟩ := h
    exact ⟨p, ws, h1, h2, h3, h4, .inl h5, h6⟩
  | no => exact h
  | im d => exact h
  | fz d => exact h
  | raw d => exact h
  | mo x => exact h
def tS (K : PySem.W.Frag) (P : List Nat) (S : Sm) : TS := fun D σ H => ∃ (G : Hp) (δ : List Sl) (fl : Fl) (δ' : List Sl), Rel K G H σ δ ∧ S δ = some (fl, δ') ∧
  ∀ (σ' : SS) (G' H' : Hp), Rel K G' H' σ' δ' → Stp σ δ G H σ' δ' G' H' → Pin P σ σ' → endOf K G' H' H σ δ σ' δ' D fl

theorem PS.by {X : Cx} {e : Stmt} {t t' : TS} (h : PS X e t) (w : ∀ D σ H, t' D σ H → t D σ H) : PS X e t' := ⟨fun pins s σ H D I q => h.run pins s σ H D I (w D σ H q)⟩
theorem PSs.by {X : Cx} {e : List Stmt} {t t' : TS} (h : PSs X e t) (w : ∀ D σ H, t' D σ H → t D σ H) : PSs X e t' := ⟨fun pins s σ H D I q => h.run pins s σ H D I (w D σ H q)⟩
abbrev DS (X : Cx) (P : List Nat) (e : Stmt) (S : Sm) : Prop := PS X e (tS X.K P S)
abbrev DSs (X : Cx) (P : List Nat) (e : List Stmt) (S : Sm) : Prop := PSs X e (tS X.K P S)
theorem Pin.refl {P : List Nat} {σ : SS} : Pin P σ σ := fun _ _ => rfl
theorem Pin.trans {P : List Nat} {σ σ' σ'' : SS} (a : Pin P σ σ') (b : Pin P σ' σ'') : Pin P σ σ'' := fun i h => (b i h).trans (a i h)
theorem Pin.set {P : List Nat} {σ : SS} {i : Nat} {v : Option V} (h : P.contains i = false) : Pin P σ (σ.set i v) := fun j hj => by
  have : i ≠ j := fun e => by
    subst e
    rw [List.contains_eq_mem] at h
    simp [hj] at h
  rw [List.getElem?_set_ne this]
def sSeq (S T : Sm) : Sm := fun δ => (S δ).bind fun x => match x.1 with
  | .nx => T x.2
  | f => some (f, x.2)
def sNext : Sm := fun δ => some (.nx, δ)
def sBrk : Sm := fun δ => some (.bk, δ)
def sCt : Sm := fun δ => some (.ct, δ)
def sStuck : Sm := fun _ => none
def sExpr (F : Ex) : Sm := fun δ => (F δ).bind fun x => some (.nx, x.2)
def sRet (F : Ex) : Sm := fun δ => (F δ).bind fun x => some (.rt x.1, x.2)
def sSet (i : Nat) (F : Ex) : Sm := fun δ => (F δ).bind fun x => some (.nx, x.2.set i x.1)
def sIf (c : Tt) (S T : Sm) : Sm := fun δ => (c δ).bind fun x => if x.1 = true then S x.2 else T x.2
section
variable {K : PySem.W.Frag} {P : List Nat} {G H : Hp} {σ : SS} {δ δ1 : List Sl}
theorem tS_run {S : Sm} {D : Ends} {fl : Fl} (R : Rel K G H σ δ) (e : S δ = some (fl, δ1)) (q : ∀ σ' G' H', Rel K G' H' σ' δ1 → Stp σ δ G H σ' δ1 G' H' → Pin P σ σ' → endOf K G' H' H σ δ σ' δ1 D fl) : tS K P S D σ H :=
  ⟨G, δ, fl, δ1, R, e, q⟩
/-- the end from further ahead -/
theorem endOf.ahead {D : Ends} {fl : Fl} {G0 H0 : Hp} {σ0 : SS} {δ0 : List Sl} {σ' : SS} {δ' : List Sl} {G' H' : Hp} (st : Stp σ0 δ0 G0 H0 σ δ G H) (h : endOf K G' H' H0 σ0 δ0 σ' δ' D fl) : endOf K G' H' H σ δ σ' δ' D fl := by
  cases fl with
  | rt r => exact fun v rv => h v (by
      cases r with
      | bx t ds =>
        obtain ⟨p, ws, h1, h2, h3, h4, h5, h6⟩ := rv
        refine ⟨p, ws, h1, h2, h3, h4, ?_, h6⟩
        rcases h5 with h5 | h5
        · exact .inl (st.dom p h5)
        · cases e : H0 p with
          | none => exact .inl rfl
          | some o => exact .inr (Classical.byContradiction fun n => (st.keep p o e n).2 h5)
      | no => exact rv
      | im d => exact rv
      | fz d => exact rv
      | raw d => exact rv
      | mo x => exact rv)
  | nx => exact h
  | bk => exact h
  | ct => exact h
/-- a value for a slot -/
theorem RV.slot {Hs : Hp} {v : V} {r : Sl} (h : RV K G H Hs σ δ v r) : SlotOk K G H (some v) r ∧ ∀ p t ds, r = .bx t ds → v = .ref p → ¬ Own σ δ p ∧ Hs p = none := by
  cases r with
  | no => exact False.elim h
  | im d => exact ⟨⟨v, rfl, h⟩, fun _ _ _ e => nomatch e⟩
  | bx t ds =>
    obtain ⟨p, ws, e1, h1, h2, h3, h4, r⟩ := h
    subst e1
    refine ⟨⟨p, ws, rfl, h1, h2, r⟩, fun q _ _ _ e => ?_⟩
    cases e
    exact ⟨h3, h4⟩
  | fz ds =>
    obtain ⟨p, ws, e1, q, r⟩ := h
    subst e1
    exact ⟨⟨p, ws, rfl, q, r⟩, fun _ _ _ e => nomatch e⟩
  | raw u => exact ⟨by rw [show v = u from h]; rfl, fun _ _ _ e => nomatch e⟩
  | mo x => exact False.elim h
theorem own_set {σ : SS} {δ : List Sl} {i : Nat} {v : V} {r : Sl} {a : Addr} (hl : σ.length = δ.length) (h : Own (σ.set i (some v)) (δ.set i r) a) : Own σ δ a ∨ (v = .ref a ∧ ∃ t ds, r = .bx t ds) := by
  obtain ⟨j, t, ds, e1, e2⟩ := h
  by_cases hj : j = i
  · subst hj
    have hl2 : j < δ.length := by
      have := (List.getElem?_eq_some_iff.mp e2).1
      simpa using this
    rw [List.getElem?_set_self hl2] at e2
    rw [List.getElem?_set_self (by rw [hl]; exact hl2)] at e1
    cases e1; cases e2
    exact .inr ⟨rfl, t, ds, rfl⟩
  · rw [List.getElem?_set_ne (Ne.symm hj)] at e1 e2
    exact .inl ⟨j, t, ds, e1, e2⟩
/-- behind a store of a result -/
theorem Stp.setR {G0 H0 : Hp} {σ0 : SS} {δ0 : List Sl} {i : Nat} {v : V} {r : Sl} (R : Rel K G H σ δ) (st : Stp σ0 δ0 G0 H0 σ δ G H) (hf : ∀ p t ds, r = .bx t ds → v = .ref p → H0 p = none) : Stp σ0 δ0 G0 H0 (σ.set i (some v)) (δ.set i r) G H :=
  ⟨fun a o e n => ⟨(st.keep a o e n).1, fun z => by
    rcases own_set R.len z with z | ⟨z, t, ds, e2⟩
    · exact (st.keep a o e n).2 z
    · rw [hf a t ds e2 z] at e
      cases e⟩, st.dom, st.same, st.grow⟩
end
section
variable {X : Cx} {P : List Nat} {pos : Pos} {s : Stmt} {ss : List Stmt} {S T : Sm} {e : Expr} {F : Ex}
theorem dss_nil : DSs X P [] sNext := PSs.by pss_nil fun D σ H h => by
  obtain ⟨G, δ, fl, δ', R, e, q⟩ := h
  cases e
  exact q σ G H R Stp.refl Pin.refl
theorem seq_go {K : PySem.W.Frag} {D : Ends} {σ : SS} {H : Hp} (h : tS K P (sSeq S T) D σ H) : tSeq (tS K P S) (tS K P T) D σ H := by
  obtain ⟨G, δ, fl, δ', R, e, q⟩ := h
  obtain ⟨⟨f1, δ1⟩, e1, e⟩ := bind_some_of e
  refine tS_run R e1 fun σ1 G1 H1 R1 st1 p1 => ?_
  cases f1 with
  | nx => exact tS_run R1 e fun σ2 G2 H2 R2 st2 p2 => (q σ2 G2 H2 R2 (st1.trans st2) (p1.trans p2)).ahead st1
  | bk => cases e; exact q σ1 G1 H1 R1 st1 p1
  | ct => cases e; exact q σ1 G1 H1 R1 st1 p1
  | rt r => cases e; exact q σ1 G1 H1 R1 st1 p1
theorem dss_cons (h1 : DS X P s S) (h2 : DSs X P ss T) : DSs X P (s :: ss) (sSeq S T) := PSs.by (pss_cons h1 h2) fun _ _ _ h => seq_go h
theorem dss_one (h1 : DS X P s S) : DSs X P [s] S := pss_one h1
theorem ds_pass : DS X P (.Pass pos) sNext := PS.by ps_pass fun D σ H h => by
  obtain ⟨G, δ, fl, δ', R, e, q⟩ := h
  cases e
  exact q σ G H R Stp.refl Pin.refl
theorem ds_brk : DS X P (.Break pos) sBrk := PS.by ps_break fun D σ H h => by
  obtain ⟨G, δ, fl, δ', R, e, q⟩ := h
  cases e
  exact q σ G H R Stp.refl Pin.refl
theorem ds_ct : DS X P (.Continue pos) sCt := PS.by ps_continue fun D σ H h => by
  obtain ⟨G, δ, fl, δ', R, e, q⟩ := h
  cases e
  exact q σ G H R Stp.refl Pin.refl
/-- what is never come to -/
theorem ds_stuck : DS X P s sStuck := PS.by ps_never fun D σ H h => by
  obtain ⟨G, δ, fl, δ', R, e, q⟩ := h
  cases e
theorem dss_stuck : DSs X P ss sStuck := PSs.by pss_never fun D σ H h => by
  obtain ⟨G, δ, fl, δ', R, e, q⟩ := h
  cases e
theorem ds_expr (h : DE X e F) (hs : swapsWith e none pos.line X.env = pure false := by rfl) : DS X P (.Expr e pos) (sExpr F) := PS.by (ps_expr h hs) fun D σ H h => by
  obtain ⟨G, δ, fl, δ', R, e, q⟩ := h
  obtain ⟨⟨r, δ1⟩, e1, e⟩ := bind_some_of e
  cases e
  exact tD_run R e1 fun v G' H' R' st rv => q σ G' H' R' st Pin.refl
theorem ds_ret (h : DE X e F) : DS X P (.Return (some e) pos) (sRet F) := PS.by (ps_ret h) fun D σ H h => by
  obtain ⟨G, δ, fl, δ', R, e, q⟩ := h
  obtain ⟨⟨r, δ1⟩, e1, e⟩ := bind_some_of e
  cases e
  exact tD_run R e1 fun v G' H' R' st rv => q σ G' H' R' st Pin.refl v rv.give
/-- a name's value is given back: a list of one's own is given away -/
def sRetV (i : Nat) : Sm := fun δ => match δ[i]? with
  | some (.bx t ds) => some (.rt (.bx t ds), δ.set i .no)
  | _ => sRet (dN i) δ
theorem own_drop {σ : SS} {δ : List Sl} {i : Nat} {a : Addr} (h : Own σ (δ.set i .no) a) : Own σ δ a ∧ ∃ j, j ≠ i ∧ σ[j]? = some (some (.ref a)) ∧ ∃ t ds, δ[j]? = some (.bx t ds) := by
  obtain ⟨j, t, ds, e1, e2⟩ := h
  by_cases hj : j = i
  · subst hj
    have hl : j < δ.length := by
      have := (List.getElem?_eq_some_iff.mp e2).1
      simpa using this
    rw [List.getElem?_set_self hl] at e2; cases e2
  · rw [List.getElem?_set_ne (Ne.symm hj)] at e2
    exact ⟨⟨j, t, ds, e1, e2⟩, j, hj, e1, t, ds, e2⟩
theorem Rel.drop {K : PySem.W.Frag} {G H : Hp} {σ : SS} {δ : List Sl} (R : Rel K G H σ δ) (i : Nat) : Rel K G H σ (δ.set i .no) := by
  refine ⟨R.sub, by simpa using R.len, fun j s e => ?_, fun a b p tt uu ds es h1 h2 h3 h4 => ?_, R.inv⟩
  · by_cases hj : j = i
    · subst hj
      have hl : j < δ.length := by
        have := (List.getElem?_eq_some_iff.mp e).1
        simpa using this
      rw [List.getElem?_set_self hl] at e; cases e
      trivial
    · rw [List.getElem?_set_ne (Ne.symm hj)] at e
      exact R.slot j s e
  · have k : ∀ {c : Nat} {t : Bt} {x : List PyData}, (δ.set i .no)[c]? = some (.bx t x) → δ[c]? = some (.bx t x) := fun {c t x} e => by
      by_cases hc : c = i
      · subst hc
        have hl : c < δ.length := by
          have := (List.getElem?_eq_some_iff.mp e).1
          simpa using this
        rw [List.getElem?_set_self hl] at e; cases e
      · rwa [List.getElem?_set_ne (Ne.symm hc)] at e
    exact R.inj a b p tt uu ds es h1 (k h2) h3 (k h4)
theorem ds_retV (i : Nat) {x : Str} {pos' : Pos} (hN : X.N[i]? = some x := by rfl) (hv : Vis X.env.scope x := by first | exact Or.inl rfl | exact Or.inr (Or.inl rfl) | exact Or.inr (Or.inr rfl)) (hd : (x == ("__debug__" : Str)) = false := by decide)
    (hcd : (x == ("__classdict__" : Str)) = false := by decide) : DS X P (.Return (some (.Name x pos')) pos) (sRetV i) := PS.by (ps_ret (pe_var hN hv hd hcd)) fun D σ H h => by
  obtain ⟨G, δ, fl, δ', R, e, q⟩ := h
  have key : ∀ {Q : VK}, (∃ r δ1, dN i δ = some (r, δ1) ∧ ∀ v G' H', Rel X.K G' H' σ δ1 → Stp σ δ G H σ δ1 G' H' → RV X.K G' H' H σ δ1 v r → Q v H') → ∃ v, σ[i]? = some (some v) ∧ Q v H := by
    rintro Q ⟨r, δ1, e, q⟩
    unfold dN at e
    split at e
    · rename_i d hd
      cases e
      obtain ⟨v, e1, r1⟩ := R.im hd
      exact ⟨v, e1, q v G H R Stp.refl r1⟩
    · rename_i ds hd
      cases e
      obtain ⟨p, ws, e1, h1, R', sg, rp, st⟩ := R.freeze hd
      exact ⟨_, e1, q _ _ H R' st rp⟩
    · rename_i ds hd
      cases e
      obtain ⟨p, ws, e1, h1, r1⟩ := R.fz hd
      exact ⟨_, e1, q _ G H R Stp.refl ⟨p, ws, rfl, h1, r1⟩⟩
    · rename_i v hd
      cases e
      exact ⟨v, R.raw hd, q v G H R Stp.refl rfl⟩
    · cases e
  unfold sRetV at e
  split at e
  · rename_i t ds hd
    cases e
    obtain ⟨p, ws, e1, h1, h2, r⟩ := R.bx hd
    refine ⟨_, e1, q σ G H (R.drop i) ⟨fun a o h n => ⟨fun _ => h, fun z => n (own_drop z).1⟩, fun _ h => h, Same.refl _, fun _ _ h => .inl h⟩ Pin.refl _ ⟨p, ws, rfl, h1, h2, fun z => ?_, .inr ⟨i, t, ds, e1, hd⟩, r⟩⟩
    obtain ⟨_, j, hj, k1, u, es, k2⟩ := own_drop z
    exact hj (R.inj j i p u t es ds k1 k2 e1 hd)
  · obtain ⟨⟨r, δ1⟩, e1, e⟩ := bind_some_of e
    cases e
    exact key ⟨r, δ1, e1, fun v G' H' R' st rv => q σ G' H' R' st Pin.refl v rv.give⟩
theorem ds_retN : DS X P (.Return none pos) (sRet (dC .none)) := PS.by ps_retN fun D σ H h => by
  obtain ⟨G, δ, fl, δ', R, e, q⟩ := h
  cases e
  exact q σ G H R Stp.refl Pin.refl .non .non
theorem ds_if {c : Expr} {a b : List Stmt} {C : Tt} (hc : DT X c C) (ha : DSs X P a S) (hb : DSs X P b T) : DS X P (.If c a b pos) (sIf C S T) := PS.by (ps_if hc ha hb) fun D σ H h => by
  obtain ⟨G, δ, fl, δ', R, e, q⟩ := h
  obtain ⟨⟨c, δ1⟩, e1, e⟩ := bind_some_of e
  refine tT_bind R e1 fun G1 H1 R1 st1 => ?_
  cases c with
  | true =>
    rw [if_pos rfl] at e ⊢
    exact tS_run R1 e fun σ2 G2 H2 R2 st2 p2 => (q σ2 G2 H2 R2 (st1.trans st2) p2).ahead st1
  | false =>
    rw [if_neg Bool.false_ne_true] at e ⊢
    exact tS_run R1 e fun σ2 G2 H2 R2 st2 p2 => (q σ2 G2 H2 R2 (st1.trans st2) p2).ahead st1
theorem set_go {K : PySem.W.Frag} {D : Ends} {σ : SS} {H : Hp} {i : Nat} (hp : P.contains i = false) (h : tS K P (sSet i F) D σ H) : tAsg (tD K F) (gName i) D σ H := by
  obtain ⟨G, δ, fl, δ', R, e, q⟩ := h
  obtain ⟨⟨r, δ1⟩, e1, e⟩ := bind_some_of e
  cases e
  refine tD_run R e1 fun v G' H' R' st rv => ?_
  obtain ⟨so, sn⟩ := rv.slot
  exact q _ G' H' (R'.set so fun p t ds e e2 => (sn p t ds e e2).1) (Stp.setR R' st fun p t ds e e2 => (sn p t ds e e2).2) (Pin.set hp)
theorem ds_set {i : Nat} {x : Str} {pos' : Pos} (hN : X.N.Nodup) (hi : X.N[i]? = some x) (hx : Loc X.env.scope x) (he : DE X e F) (hp : P.contains i = false := by rfl) (hs : swapsWith e (some (.Name x pos')) pos.line X.env = pure false := by rfl)
    (hf : X.fn x = true ∨ X.env.scope.names.lookup x = some .local := by first | exact .inl rfl | exact .inr rfl | assumption) : DS X P (.Assign [.Name x pos'] e pos) (sSet i F) :=
  PS.by (ps_set hN hi hx he hs hf) fun _ _ _ h => set_go hp h
end
end CK
/-! arguments, calls, defs -/
namespace CK
open PySem PySem.Spec PyProof.Rows L2
variable [Memo]

/-- an argument: a slot whose list the callee may change, or a value -/
inductive Ag where
  | io (i : Nat)
  | ex (F : Ex)
/-- the values reckoned, from the left -/
def agE : List Ag → List Sl → Option (List (Option Sl) × List Sl)
  | [], δ => some ([], δ)
  | .io i :: r, δ => (match δ[i]? with | some (.bx _ _) => some () | some (.mo _) => some () | _ => none).bind fun _ => (agE r δ).bind fun x => some (none :: x.1, x.2)
  | .ex F :: r, δ => (F δ).bind fun x => x.1.arg.bind fun s => (agE r x.2).bind fun y => some (some s :: y.1, y.2)
/-- the slots of the callee's parameters -/
def agS : List Ag → List (Option Sl) → List Sl → Option (List Sl)
  | [], [], _ => some []
  | .io i :: r, none :: ps, δ => (match δ[i]? with | some (.bx t ds) => some (Sl.bx t ds) | some (.mo x) => some (Sl.mo x) | _ => none).bind fun s => (agS r ps δ).bind fun t => some (s :: t)
  | .ex _ :: r, some s :: ps, δ => (agS r ps δ).bind fun t => some (s :: t)
  | _, _, _ => none
/-- what comes back into the caller's slots -/
def agB : List Ag → List Sl → List Sl → List Sl
  | .io i :: r, s :: ss, δ => agB r ss (δ.set i s)
  | .ex _ :: r, _ :: ss, δ => agB r ss δ
  | _, _, δ => δ
def agI : List Ag → List Nat
  | [] => []
  | .io i :: r => i :: agI r
  | .ex _ :: r => agI r

/-- how the values lie -/
def AW (K : PySem.W.Frag) (G : Hp) (σ : SS) : List V → List Ag → List (Option Sl) → Prop
  | [], [], [] => True
  | v :: vs, .io i :: r, none :: ps => σ[i]? = some (some v) ∧ AW K G σ vs r ps
  | v :: vs, .ex _ :: r, some s :: ps => AV K G v s ∧ AW K G σ vs r ps
  | _, _, _ => False
theorem AW.same {K : PySem.W.Frag} {G G' : Hp} {σ : SS} (sg : Same G G') : ∀ {vs : List V} {as : List Ag} {ps : List (Option Sl)}, AW K G σ vs as ps → AW K G' σ vs as ps
  | [], [], [], _ => trivial
  | _ :: _, .io _ :: _, none :: _, h => ⟨h.1, AW.same sg h.2⟩
  | _ :: _, .ex _ :: _, some _ :: _, h => ⟨h.1.same sg, AW.same sg h.2⟩
/-- the reading of an argument list -/
def tAg (K : PySem.W.Frag) (as : List Ag) : TA := fun σ H Q => ∃ (G : Hp) (δ : List Sl) (ps : List (Option Sl)) (δ' : List Sl), Rel K G H σ δ ∧ agE as δ = some (ps, δ') ∧
  ∀ (vs : List V) (G' H' : Hp), Rel K G' H' σ δ' → Stp σ δ G H σ δ' G' H' → AW K G' σ vs as ps → Q vs H'
theorem PA.by {X : Cx} {es : List Expr} {t t' : TA} (h : PA X es t) (w : ∀ σ H Q, t' σ H Q → t σ H Q) : PA X es t' := ⟨fun pos pins s σ H Q I q => h.run pos pins s σ H Q I (w σ H Q q)⟩
abbrev DA (X : Cx) (es : List Expr) (as : List Ag) : Prop := PA X es (tAg X.K as)
section
variable {X : Cx} {e : Expr} {es : List Expr} {F : Ex} {as : List Ag}
theorem da_nil : DA X [] [] := PA.by pa_nil fun σ H Q h => by
  obtain ⟨G, δ, ps, δ', R, e, q⟩ := h
  cases e
  exact q [] G H R Stp.refl trivial
theorem da_ex (ha : DE X e F) (hr : DA X es as) (hs : starEach (e :: es) X.env = (false, eval e X.env) :: starEach es X.env := by rfl) : DA X (e :: es) (.ex F :: as) := PA.by (pa_cons ha hr hs) fun σ H Q h => by
  obtain ⟨G, δ, ps, δ', R, e, q⟩ := h
  obtain ⟨⟨r, δ1⟩, e1, e⟩ := bind_some_of e
  obtain ⟨s, e2, e⟩ := bind_some_of e
  obtain ⟨⟨ps1, δ2⟩, e3, e⟩ := bind_some_of e
  cases e
  refine tD_run R e1 fun v G1 H1 R1 st1 rv => ?_
  obtain ⟨G2, R2, st2, _, av⟩ := RV.argd R1 st1 rv e2
  exact ⟨G2, δ1, ps1, _, R2, e3, fun vs G3 H3 R3 st3 aw => q (v :: vs) G3 H3 R3 (st2.trans st3) ⟨av.same st3.same, aw⟩⟩
theorem da_io (i : Nat) {x : Str} {pos : Pos} (hr : DA X es as) (hN : X.N[i]? = some x := by rfl) (hv : Vis X.env.scope x := by first | exact Or.inl rfl | exact Or.inr (Or.inl rfl) | exact Or.inr (Or.inr rfl)) (hd : (x == ("__debug__" : Str)) = false := by decide)
    (hcd : (x == ("__classdict__" : Str)) = false := by decide) (hs : starEach (.Name x pos :: es) X.env = (false, eval (.Name x pos) X.env) :: starEach es X.env := by rfl) : DA X (.Name x pos :: es) (.io i :: as) := PA.by (pa_cons (pe_var hN hv hd hcd) hr hs) fun σ H Q h => by
  obtain ⟨G, δ, ps, δ', R, e, q⟩ := h
  obtain ⟨u, e0, e⟩ := bind_some_of e
  obtain ⟨⟨ps1, δ2⟩, e3, e⟩ := bind_some_of e
  cases e
  split at e0
  · rename_i t ds hd
    obtain ⟨p, ws, e1, _⟩ := R.bx hd
    exact ⟨_, e1, G, δ, ps1, _, R, e3, fun vs G3 H3 R3 st3 aw => q (_ :: vs) G3 H3 R3 st3 ⟨e1, aw⟩⟩
  · rename_i x hd
    obtain ⟨p, e1, _⟩ := R.slot i _ hd
    have e1 := getD_some e1
    exact ⟨_, e1, G, δ, ps1, _, R, e3, fun vs G3 H3 R3 st3 aw => q (_ :: vs) G3 H3 R3 st3 ⟨e1, aw⟩⟩
  · cases e0
end

/-! ### a def's promise -/
/-- what a def makes of its parameters' slots -/
abbrev Fn := List Sl → Option (Sl × List Sl)
def spD (K : PySem.W.Frag) (n : Nat) (f : Fn) : Sp := fun vs H Q _ => vs.length = n ∧ ∃ (G : Hp) (as : List Sl) (r : Sl) (as' : List Sl), Rel K G H (vs.map some) as ∧ f as = some (r, as') ∧
  ∀ (v : V) (G' H' : Hp), Rel K G' H' (vs.map some) as' → Stp (vs.map some) as G H (vs.map some) as' G' H' → RV K G' H' H (vs.map some) as' v r → Q v H'
/-- which parameters come back: those pinned; no other is a list of its own -/
def back (P : List Nat) : Nat → List Sl → List Sl → Option (List Sl)
  | _, [], _ => some []
  | i, a :: as, d :: ds => if P.contains i = true then (back P (i + 1) as ds).bind fun r => some (d :: r) else
      (match a with | .no => none | .bx _ _ => none | .mo _ => none | a => some a).bind fun a => (back P (i + 1) as ds).bind fun r => some (a :: r)
  | _, _ :: _, [] => none
/-- a def by its body: m more slots behind the parameters -/
def isOw : Option Sl → Bool
  | some (.bx _ _) => true
  | some (.mo _) => true
  | _ => false
/-- a list that is given away is none of those that were lent -/
def okR (P : List Nat) (δ : List Sl) : Sl → Bool
  | .bx _ _ => P.all fun i => isOw δ[i]?
  | _ => true
def fnD (P : List Nat) (m : Nat) (S : Sm) : Fn := fun as => (S (as ++ List.replicate m .no)).bind fun x => (match x.1 with
      | .rt r => some r
      | .nx => some (.im .none)
      | _ => none).bind fun r => if okR P x.2 r = true then (back P 0 as x.2).bind fun b => some (r, b) else none
theorem back_own {P : List Nat} : ∀ {as ds b : List Sl} {i j : Nat} {t : Bt} {x : List PyData}, back P i as ds = some b → as[j]? = some (.bx t x) → P.contains (i + j) = true
  | [], ds, b, i, j, t, x, _, e => by simp at e
  | a :: as, [], b, i, j, t, x, h, _ => by cases h
  | a :: as, d :: ds, b, i, j, t, x, h, e => by
    unfold back at h
    by_cases hp : P.contains i = true
    · rw [if_pos hp] at h
      obtain ⟨r, e1, _⟩ := bind_some_of h
      cases j with
      | zero => exact hp
      | succ j =>
        have := back_own (j := j) (t := t) (x := x) e1 (by simpa using e)
        rwa [show i + 1 + j = i + (j + 1) by omega] at this
    · rw [if_neg hp] at h
      obtain ⟨a', e0, h⟩ := bind_some_of h
      obtain ⟨r, e1, _⟩ := bind_some_of h
      cases j with
      | zero =>
        have : a = .bx t x := by simpa using e
        subst this
        cases e0
      | succ j =>
        have := back_own (j := j) (t := t) (x := x) e1 (by simpa using e)
        rwa [show i + 1 + j = i + (j + 1) by omega] at this
theorem back_get {P : List Nat} : ∀ {as ds b : List Sl} {i : Nat}, back P i as ds = some b → b.length = as.length ∧ ∀ (j : Nat) (s : Sl), b[j]? = some s → (P.contains (i + j) = true ∧ ds[j]? = some s) ∨ (as[j]? = some s ∧ (∀ t x, s ≠ .bx t x) ∧ ∀ x, s ≠ .mo x)
  | [], ds, b, i, h => by
    cases h
    exact ⟨rfl, fun j s e => by simp at e⟩
  | a :: as, [], b, i, h => by cases h
  | a :: as, d :: ds, b, i, h => by
    unfold back at h
    by_cases hp : P.contains i = true
    · rw [if_pos hp] at h
      obtain ⟨r, e1, e⟩ := bind_some_of h
      cases e
      obtain ⟨hl, ih⟩ := back_get e1
      refine ⟨by simp [hl], fun j s e => ?_⟩
      cases j with
      | zero => cases e; exact .inl ⟨hp, rfl⟩
      | succ j =>
        have := ih j s e
        have e2 : i + 1 + j = i + (j + 1) := by omega
        rw [e2] at this
        exact this
    · rw [if_neg hp] at h
      obtain ⟨a', e0, h⟩ := bind_some_of h
      obtain ⟨r, e1, e⟩ := bind_some_of h
      cases e
      obtain ⟨hl, ih⟩ := back_get e1
      refine ⟨by simp [hl], fun j s e => ?_⟩
      cases j with
      | zero =>
        cases e
        refine .inr ?_
        cases a with
        | no => cases e0
        | bx t d => cases e0
        | im d => cases e0; exact ⟨rfl, (fun _ _ z => nomatch z), fun _ z => nomatch z⟩
        | fz d => cases e0; exact ⟨rfl, (fun _ _ z => nomatch z), fun _ z => nomatch z⟩
        | raw d => cases e0; exact ⟨rfl, (fun _ _ z => nomatch z), fun _ z => nomatch z⟩
        | mo d => cases e0
      | succ j =>
        have := ih j s e
        have e2 : i + 1 + j = i + (j + 1) := by omega
        rw [e2] at this
        exact this
theorem map_some_get {vs : List V} {i : Nat} {v : V} (e : (vs.map some)[i]? = some (some v)) : vs[i]? = some v := by
  rw [List.getElem?_map] at e
  cases h : vs[i]? with
  | none => rw [h] at e; cases e
  | some x => rw [h] at e; cases e; rfl
theorem fn_body {K : PySem.W.Frag} {P : List Nat} {m n : Nat} {S : Sm} {N : List Str} {vs : List V} {H : Hp} {Q : VK} {E : XK} (h : spD K n (fnD P m S) vs H Q E) (hN : N.length = n + m) (hP : ∀ i ∈ P, i < n) :
    tS K P S { nx := fun _ H' => Q .non H', rt := Q } (L2.start N vs) H := by
  obtain ⟨hl, G, as, r, as', R, e, q⟩ := h
  obtain ⟨⟨fl, δ'⟩, e1, e⟩ := bind_some_of e
  obtain ⟨r', e2, e⟩ := bind_some_of e
  obtain ⟨hk, e⟩ : okR P δ' r' = true ∧ (back P 0 as δ').bind (fun b => some (r', b)) = some (r, as') := by
    by_cases z : okR P δ' r' = true
    · rw [if_pos z] at e; exact ⟨z, e⟩
    · rw [if_neg z] at e; cases e
  obtain ⟨b, e3, e⟩ := bind_some_of e
  cases e
  obtain ⟨bl, bg⟩ := back_get e3
  have al : as.length = n := by rw [← R.len, List.length_map]; exact hl
  have es : L2.start N vs = vs.map some ++ List.replicate m none := by
    unfold L2.start
    rw [hN, hl]
    have : n + m - n = m := by omega
    rw [this]
  have sl : (vs.map some).length = as.length := R.len
  have getA : ∀ {i : Nat}, i < n → (L2.start N vs)[i]? = (vs.map some)[i]? := fun {i} hi => by
    rw [es, List.getElem?_append_left (by rw [List.length_map]; omega)]
  have getD : ∀ {i : Nat}, i < n → (as ++ List.replicate m Sl.no)[i]? = as[i]? := fun {i} hi => by
    rw [List.getElem?_append_left (by omega)]
  have big : ∀ {i : Nat} {s : Sl}, ¬ i < n → (as ++ List.replicate m Sl.no)[i]? = some s → s = .no := fun {i s} hi h => by
    rw [List.getElem?_append_right (by omega)] at h
    exact (List.eq_of_mem_replicate (List.mem_of_getElem? h))
  have own0 : ∀ {a : Addr}, Own (L2.start N vs) (as ++ List.replicate m .no) a → Own (vs.map some) as a := by
    rintro a ⟨i, t, ds, h1, h2⟩
    by_cases hi : i < n
    · rw [getA hi] at h1; rw [getD hi] at h2
      exact ⟨i, t, ds, h1, h2⟩
    · have := big hi h2; cases this
  have R0 : Rel K G H (L2.start N vs) (as ++ List.replicate m .no) := by
    refine ⟨R.sub, by rw [es]; simp [sl], fun i s h => ?_, fun i j p tt uu ds es' h1 h2 h3 h4 => ?_, R.inv⟩
    · by_cases hi : i < n
      · rw [getD hi] at h; rw [getA hi]; exact R.slot i s h
      · have := big hi h; subst this; trivial
    · by_cases hi : i < n
      · by_cases hj : j < n
        · rw [getA hi] at h1; rw [getD hi] at h2; rw [getA hj] at h3; rw [getD hj] at h4
          exact R.inj i j p tt uu ds es' h1 h2 h3 h4
        · have := big hj h4; cases this
      · have := big hi h2; cases this
  refine tS_run R0 e1 fun σ' G' H' R' st pin => ?_
  have bo : ∀ {j : Nat} {t : Bt} {ds : List PyData}, as'[j]? = some (.bx t ds) → P.contains j = true ∧ δ'[j]? = some (.bx t ds) := fun {j t ds} h => by
    rcases bg j _ h with ⟨h1, h2⟩ | ⟨_, h2⟩
    · rw [Nat.zero_add] at h1; exact ⟨h1, h2⟩
    · exact absurd rfl (h2.1 t ds)
  have pg : ∀ {j : Nat}, P.contains j = true → σ'[j]? = (vs.map some)[j]? := fun {j} h => by
    have hm : j ∈ P := by
      rw [List.contains_eq_mem] at h
      exact of_decide_eq_true h
    rw [pin j hm, getA (hP j hm)]
  have bown : ∀ {a : Addr}, Own (vs.map some) as' a → Own σ' δ' a := by
    rintro a ⟨i, t, ds, h1, h2⟩
    obtain ⟨h3, h4⟩ := bo h2
    exact ⟨i, t, ds, by rw [pg h3]; exact h1, h4⟩
  have Rb : Rel K G' H' (vs.map some) as' := by
    refine ⟨R'.sub, by rw [bl]; exact R.len, fun j s h => ?_, fun i j p tt uu ds es' h1 h2 h3 h4 => ?_, R'.inv⟩
    · rcases bg j s h with ⟨h1, h2⟩ | ⟨h1, h2⟩
      · rw [Nat.zero_add] at h1
        rw [← pg h1]
        exact R'.slot j s h2
      · exact (R.slot j s h1).same st.same (fun p t ws ds e => absurd e (h2.1 t ds)) fun x p e => absurd e (h2.2 x)
    · obtain ⟨k1, k2⟩ := bo h2
      obtain ⟨k3, k4⟩ := bo h4
      exact R'.inj i j p tt uu ds es' (by rw [pg k1]; exact h1) k2 (by rw [pg k3]; exact h3) k4
  have stb : Stp (vs.map some) as G H (vs.map some) as' G' H' := by
    refine ⟨fun a o h n => ?_, st.dom, st.same, fun a o h => ?_⟩
    · obtain ⟨h1, h2⟩ := st.keep a o h fun z => n (own0 z)
      exact ⟨h1, fun z => h2 (bown z)⟩
    · rcases st.grow a o h with h | h | h
      · exact .inl h
      · exact .inr (.inl h)
      · exact .inr (.inr (own0 h))
  have fin : ∀ v, RW K G' H' H (L2.start N vs) (as ++ List.replicate m .no) σ' δ' v r → Q v H' := fun v rv => by
    refine q v G' H' Rb stb ?_
    cases r with
    | bx t ds =>
      obtain ⟨p, ws, h1, h2, h3, h4, h5, h6⟩ := rv
      refine ⟨p, ws, h1, h2, h3, fun z => h4 (bown z), ?_, h6⟩
      rcases h5 with h5 | h5
      · exact h5
      · exfalso
        obtain ⟨i, u, es, k1, k2⟩ := own0 h5
        have hP := back_own e3 k2
        rw [Nat.zero_add] at hP
        have hm : i ∈ P := by
          rw [List.contains_eq_mem] at hP
          exact of_decide_eq_true hP
        have ho : isOw δ'[i]? = true := List.all_eq_true.mp (show P.all (fun i => isOw δ'[i]?) = true from hk) i hm
        have hor : (∃ u' fs, δ'[i]? = some (.bx u' fs)) ∨ ∃ x, δ'[i]? = some (.mo x) := by
          revert ho
          generalize δ'[i]? = o
          intro ho
          match o, ho with
          | some (.bx u' fs), _ => exact .inl ⟨u', fs, rfl⟩
          | some (.mo x), _ => exact .inr ⟨x, rfl⟩
        rcases hor with ⟨u', fs, hf⟩ | ⟨x, hf⟩
        · exact h4 ⟨i, u', fs, by rw [pg hP]; exact k1, hf⟩
        · obtain ⟨p', z1, z2⟩ := R'.slot i _ hf
          have z3 := getD_some z1
          rw [pg hP, k1] at z3
          cases z3
          rcases Memo.mg z2 with y | ⟨φ, y⟩
          · exact y h3
          · obtain ⟨o, e1, nv, _⟩ := h2.at
            rw [e1] at y; cases y
            exact nv ⟨φ, rfl⟩
    | no => exact rv
    | im d => exact rv
    | fz d => exact rv
    | raw d => exact rv
    | mo d => exact rv
  cases fl with
  | nx => cases e2; exact fin .non .non
  | bk => cases e2
  | ct => cases e2
  | rt r2 => cases e2; exact fin

/-! ### the call of a def -/
def dCall (f : Fn) (as : List Ag) : Ex := fun δ => (agE as δ).bind fun x => (agS as x.1 x.2).bind fun ss => (f ss).bind fun y => some (y.1, agB as y.2 x.2)
section
variable {K : PySem.W.Frag} {G H : Hp} {σ : SS}
/-- where a parameter's slot comes from -/
theorem agS_get : ∀ {as : List Ag} {ps : List (Option Sl)} {δ ss : List Sl} {vs : List V}, agS as ps δ = some ss → AW K G σ vs as ps → ss.length = vs.length ∧ ∀ (j : Nat) (s : Sl), ss[j]? = some s → ∃ v, vs[j]? = some v ∧
    ((AV K G v s ∧ (∀ t ds, s ≠ .bx t ds) ∧ ∀ x, s ≠ .mo x) ∨ (∃ i t ds, as[j]? = some (.io i) ∧ s = .bx t ds ∧ δ[i]? = some (.bx t ds) ∧ σ[i]? = some (some v)) ∨
      ∃ i x, as[j]? = some (.io i) ∧ s = .mo x ∧ δ[i]? = some (.mo x) ∧ σ[i]? = some (some v))
  | [], [], δ, ss, [], h, _ => by
    cases h
    exact ⟨rfl, fun j s e => by simp at e⟩
  | .io i :: as, none :: ps, δ, ss, v :: vs, h, w => by
    obtain ⟨s0, e0, h⟩ := bind_some_of h
    obtain ⟨t, e1, h⟩ := bind_some_of h
    cases h
    obtain ⟨hl, ih⟩ := agS_get e1 w.2
    refine ⟨by simp [hl], fun j s e => ?_⟩
    cases j with
    | zero =>
      cases e
      split at e0
      · rename_i t ds hd
        cases e0
        exact ⟨v, rfl, .inr (.inl ⟨i, t, ds, rfl, rfl, hd, w.1⟩)⟩
      · rename_i x hd
        cases e0
        exact ⟨v, rfl, .inr (.inr ⟨i, x, rfl, rfl, hd, w.1⟩)⟩
      · cases e0
    | succ j => exact ih j s e
  | .ex F :: as, some s0 :: ps, δ, ss, v :: vs, h, w => by
    obtain ⟨t, e1, h⟩ := bind_some_of h
    cases h
    obtain ⟨hl, ih⟩ := agS_get e1 w.2
    refine ⟨by simp [hl], fun j s e => ?_⟩
    cases j with
    | zero =>
      cases e
      refine ⟨v, rfl, .inl ⟨w.1, fun t ds e => ?_, fun x e => ?_⟩⟩ <;>
      · subst e
        exact w.1
    | succ j => exact ih j s e
theorem agI_mem : ∀ {as : List Ag} {j i : Nat}, as[j]? = some (.io i) → i ∈ agI as
  | .io k :: as, 0, i, h => by cases h; exact List.mem_cons_self
  | .io k :: as, j + 1, i, h => List.mem_cons_of_mem _ (agI_mem (j := j) h)
  | .ex F :: as, j + 1, i, h => agI_mem (as := as) (j := j) h
theorem agI_inj : ∀ {as : List Ag} {j k i : Nat}, (agI as).Nodup → as[j]? = some (.io i) → as[k]? = some (.io i) → j = k
  | .io a :: as, 0, 0, i, _, _, _ => rfl
  | .io a :: as, 0, k + 1, i, n, h1, h2 => by
    cases h1
    exact absurd (agI_mem (as := as) (j := k) h2) (List.nodup_cons.mp n).1
  | .io a :: as, j + 1, 0, i, n, h1, h2 => by
    cases h2
    exact absurd (agI_mem (as := as) (j := j) h1) (List.nodup_cons.mp n).1
  | .io a :: as, j + 1, k + 1, i, n, h1, h2 => congrArg (· + 1) (agI_inj (as := as) (List.nodup_cons.mp n).2 h1 h2)
  | .ex F :: as, j + 1, k + 1, i, n, h1, h2 => congrArg (· + 1) (agI_inj (as := as) n h1 h2)
/-- what stands in the caller's slots behind the call -/
theorem agB_get : ∀ {as : List Ag} {ss δ : List Sl} {n : Nat}, ss.length = as.length → (agI as).Nodup → (agB as ss δ).length = δ.length ∧ ∀ (k : Nat) (s : Sl), (agB as ss δ)[k]? = some s → (k ∉ agI as ∧ δ[k]? = some s) ∨ ∃ j : Nat, as[j]? = some (Ag.io k) ∧ ss[j]? = some s
  | [], [], δ, n, _, _ => ⟨rfl, fun k s h => .inl ⟨by simp [agI], h⟩⟩
  | .io i :: as, s0 :: ss, δ, n, hl, nd => by
    obtain ⟨h1, h2⟩ := agB_get (as := as) (ss := ss) (δ := δ.set i s0) (n := n) (by simpa using hl) (List.nodup_cons.mp nd).2
    refine ⟨by simpa [agB] using h1, fun k s h => ?_⟩
    rcases h2 k s h with ⟨h3, h4⟩ | ⟨j, h3, h4⟩
    · by_cases hk : k = i
      · subst hk
        have hlt : k < δ.length := by
          have := (List.getElem?_eq_some_iff.mp h4).1
          simpa using this
        rw [List.getElem?_set_self hlt] at h4
        exact .inr ⟨0, rfl, h4⟩
      · rw [List.getElem?_set_ne (Ne.symm hk)] at h4
        exact .inl ⟨fun z => (List.mem_cons.mp z).elim hk h3, h4⟩
    · exact .inr ⟨j + 1, h3, h4⟩
  | .ex F :: as, s0 :: ss, δ, n, hl, nd => by
    obtain ⟨h1, h2⟩ := agB_get (as := as) (ss := ss) (δ := δ) (n := n) (by simpa using hl) nd
    refine ⟨h1, fun k s h => ?_⟩
    rcases h2 k s h with h3 | ⟨j, h3, h4⟩
    · exact .inl h3
    · exact .inr ⟨j + 1, h3, h4⟩
theorem agS_len {as : List Ag} {ps : List (Option Sl)} {vs : List V} : AW K G σ vs as ps → vs.length = as.length := by
  induction vs generalizing as ps with
  | nil =>
    intro h
    cases as with
    | nil => rfl
    | cons a as => cases a <;> cases ps <;> exact h.elim
  | cons v vs ih =>
    intro h
    cases as with
    | nil => cases ps <;> exact h.elim
    | cons a as =>
      cases a with
      | io i =>
        cases ps with
        | nil => exact h.elim
        | cons p ps =>
          cases p with
          | none => exact congrArg (· + 1) (ih h.2)
          | some s => exact h.elim
      | ex F =>
        cases ps with
        | nil => exact h.elim
        | cons p ps =>
          cases p with
          | none => exact h.elim
          | some s => exact congrArg (· + 1) (ih h.2)
theorem call_core {n : Nat} {f : Fn} {as : List Ag} {Q : VK} {E : XK} {G1 H1 : Hp} {δ1 ss ss' : List Sl} {ps : List (Option Sl)} {r1 : Sl} {vs : List V} (nd : (agI as).Nodup) (hn : as.length = n) (R1 : Rel K G1 H1 σ δ1) (aw : AW K G1 σ vs as ps)
    (e2 : agS as ps δ1 = some ss) (e3 : f ss = some (r1, ss')) (hm : (∀ a, ¬ Memo.W a) ∨ ∀ (i : Nat) (x : Inf), δ1[i]? = some (.mo x) → i ∈ agI as)
    (q : ∀ (v : V) (G2 H2 : Hp), Rel K G2 H2 σ (agB as ss' δ1) → Stp σ δ1 G1 H1 σ (agB as ss' δ1) G2 H2 → RV K G2 H2 H1 σ (agB as ss' δ1) v r1 → Q v H2) : spD K n f vs H1 Q E := by
  obtain ⟨sl, sg⟩ := agS_get e2 aw
  have vl := agS_len aw
  have RA : Rel K G1 H1 (vs.map some) ss := by
    refine ⟨R1.sub, by rw [List.length_map]; exact sl.symm, fun j s h => ?_, fun i j p tt uu ds es h1 h2 h3 h4 => ?_, R1.inv⟩
    · obtain ⟨v, hv, h⟩ := sg j s h
      have ev : ((vs.map some)[j]?).getD none = some v := by rw [List.getElem?_map, hv]; rfl
      rw [ev]
      rcases h with ⟨h, h', h5⟩ | ⟨i, t, ds, h1, rfl, h2, h3⟩ | ⟨i, x, h1, rfl, h2, h3⟩
      · cases s with
        | no => exact h.elim
        | im d => exact ⟨v, rfl, h⟩
        | bx t d => exact absurd rfl (h' t d)
        | fz d => obtain ⟨p, ws, e, q, r⟩ := h; exact ⟨p, ws, by rw [e], q, r⟩
        | raw u => rw [show v = u from h]; rfl
        | mo x => exact absurd rfl (h5 x)
      · have := R1.slot i _ h2
        rw [h3] at this
        exact this
      · have := R1.slot i _ h2
        rw [h3] at this
        exact this
    · obtain ⟨v1, hv1, k1⟩ := sg i _ h2
      obtain ⟨v2, hv2, k2⟩ := sg j _ h4
      rcases k1 with ⟨_, k1, _⟩ | ⟨a, t1, d1, b1, b2, b3, b4⟩ | ⟨_, _, _, z, _⟩
      · exact absurd rfl (k1 tt ds)
      rotate_left
      · cases z
      rcases k2 with ⟨_, k2, _⟩ | ⟨a', t1', d1', c1, c2, c3, c4⟩ | ⟨_, _, _, z, _⟩
      · exact absurd rfl (k2 uu es)
      rotate_left
      · cases z
      have x1 := map_some_get h1
      have x2 := map_some_get h3
      rw [hv1] at x1; cases x1
      rw [hv2] at x2; cases x2
      have := R1.inj a a' p t1 t1' d1 d1' b4 b3 c4 c3
      subst this
      exact agI_inj nd b1 c1
  have ownA : ∀ {a : Addr}, Own (vs.map some) ss a → Own σ δ1 a := by
    rintro a ⟨j, t, ds, h1, h2⟩
    obtain ⟨v, hv, k⟩ := sg j _ h2
    rcases k with ⟨_, k, _⟩ | ⟨i, t1, d1, b1, b2, b3, b4⟩ | ⟨_, _, _, z, _⟩
    · exact absurd rfl (k t ds)
    rotate_left
    · cases z
    have x1 := map_some_get h1
    rw [hv] at x1; cases x1
    exact ⟨i, t1, d1, b4, b3⟩
  refine ⟨by rw [vl, hn], G1, ss, r1, ss', RA, e3, fun v G2 H2 R2 st2 rv => ?_⟩
  have sg2 := st2.same
  have l2 : ss'.length = as.length := by rw [← R2.len, List.length_map]; exact vl
  obtain ⟨bl, bg⟩ := agB_get (δ := δ1) (n := 0) l2 nd
  -- how a slot behind the call comes
  have src : ∀ (k : Nat) (s : Sl), (agB as ss' δ1)[k]? = some s → (k ∉ agI as ∧ δ1[k]? = some s) ∨ ∃ (j : Nat) (w : V), vs[j]? = some w ∧ σ[k]? = some (some w) ∧ ss'[j]? = some s ∧ ((∃ (t : Bt) (ds : List PyData), ss[j]? = some (Sl.bx t ds)) ∨ ∀ t ds, s ≠ .bx t ds) ∧ as[j]? = some (Ag.io k) := fun k s h => by
    rcases bg k s h with h | ⟨j, h1, h2⟩
    · exact .inl h
    · refine .inr ?_
      have hj : j < ss.length := by
        have := (List.getElem?_eq_some_iff.mp h2).1
        omega
      obtain ⟨w, hw, k2⟩ := sg j ss[j] (List.getElem?_eq_getElem hj)
      rcases k2 with ⟨k3, k4, k5⟩ | ⟨i, t1, d1, b1, b2, b3, b4⟩ | ⟨i, x, b1, b2, b3, b4⟩
      · -- an inout argument is a list of its own
        exfalso
        clear bg bl
        have : ∀ (as : List Ag) (ps : List (Option Sl)) (ss : List Sl) (j : Nat) (s : Sl), agS as ps δ1 = some ss → as[j]? = some (.io k) → ss[j]? = some s → (∃ t d, s = .bx t d) ∨ ∃ x, s = .mo x := by
          intro as
          induction as with
          | nil => intro ps ss j s _ h; simp at h
          | cons a as ih =>
            intro ps ss j s h h1 h2
            cases a with
            | io i =>
              cases ps with
              | nil => cases h
              | cons p ps =>
                cases p with
                | some x => cases h
                | none =>
                  obtain ⟨s0, e0, h⟩ := bind_some_of h
                  obtain ⟨t, e1, h⟩ := bind_some_of h
                  cases h
                  cases j with
                  | zero =>
                    cases h2
                    split at e0
                    · cases e0; exact .inl ⟨_, _, rfl⟩
                    · cases e0; exact .inr ⟨_, rfl⟩
                    · cases e0
                  | succ j => exact ih ps t j s e1 h1 h2
            | ex F =>
              cases ps with
              | nil => cases h
              | cons p ps =>
                cases p with
                | none => cases h
                | some x =>
                  obtain ⟨t, e1, h⟩ := bind_some_of h
                  cases h
                  cases j with
                  | zero => cases h1
                  | succ j => exact ih ps t j s e1 h1 h2
        rcases this as ps ss j ss[j] e2 h1 (List.getElem?_eq_getElem hj) with ⟨t, d, hd⟩ | ⟨x, hd⟩
        · exact k4 t d hd
        · exact k5 x hd
      · rw [h1] at b1; cases b1
        exact ⟨j, w, hw, b4, h2, .inl ⟨t1, d1, by rw [List.getElem?_eq_getElem hj, b2]⟩, h1⟩
      · rw [h1] at b1; cases b1
        refine ⟨j, w, hw, b4, h2, .inr fun t ds z => ?_, h1⟩
        subst z
        obtain ⟨p, z1, z2⟩ := R1.slot k _ b3
        obtain ⟨p', ws, z3, _, z4, _⟩ := R2.slot j _ h2
        have ev : ((vs.map some)[j]?).getD none = some w := by rw [List.getElem?_map, hw]; rfl
        rw [ev] at z3
        rw [b4] at z1
        cases z3; cases z1
        rcases Memo.mg z2 with hg | ⟨φ, hφ⟩
        · exact hg (gfree sg2 z4)
        · exact (st2.keep _ _ hφ (own_lst RA hφ soft_ext)).2 ⟨j, t, ds, by rw [List.getElem?_map, hw]; rfl, h2⟩
  have R3 : Rel K G2 H2 σ (agB as ss' δ1) := by
    refine ⟨R2.sub, by rw [bl]; exact R1.len, fun k s h => ?_, fun i j p tt uu ds es h1 h2 h3 h4 => ?_, R2.inv⟩
    · rcases src k s h with ⟨h1, h2⟩ | ⟨j, w, h1, h2, h3, _⟩
      · refine (R1.slot k s h2).same st2.same (fun p t ws ds e g1 g2 g3 => ?_) fun x p e _ m => by
          subst e
          rcases hm with hm | hm
          · exact Memo.mst m st2.same (gn_stp RA st2) fun a o e ns => (st2.keep a o e (own_lst RA e ns)).1 fun z => hm _ z.2
          · exact absurd (hm k x h2) h1
        subst e
        have no : ¬ Own (vs.map some) ss p := by
          rintro ⟨j, u, d2, z1, z2⟩
          obtain ⟨w, hw, k2⟩ := sg j _ z2
          rcases k2 with ⟨_, k2, _⟩ | ⟨i, t1, d1, b1, b2, b3, b4⟩ | ⟨_, _, _, z, _⟩
          · exact absurd rfl (k2 u d2)
          rotate_left
          · cases z
          have x1 := map_some_get z1
          rw [hw] at x1; cases x1
          have := R1.inj k i p t t1 ds d1 (getD_some g3) h2 b4 b3
          subst this
          exact h1 (agI_mem b1)
        obtain ⟨o1, g1, nv, kb⟩ := g1.at
        refine ⟨kb _ ((st2.keep p _ g1 no).1 fun z => nv z.1), ?_⟩
        cases hg : G2 p with
        | none => rfl
        | some u =>
          rcases st2.grow p u hg with z | z | z
          · rw [g2] at z; cases z
          · rw [g1] at z; cases z
          · exact absurd z no
      · have := R2.slot j s h3
        have ev : ((vs.map some)[j]?).getD none = some w := by rw [List.getElem?_map, h1]; rfl
        rw [ev] at this
        rw [h2]
        exact this
    · rcases src i _ h2 with ⟨a1, a2⟩ | ⟨a, w, a1, a2, a3, a4', a5⟩
      · rcases src j _ h4 with ⟨b1, b2⟩ | ⟨b, w', b1, b2, b3, b4', b5⟩
        · exact R1.inj i j p tt uu ds es h1 a2 h3 b2
        · exfalso
          rw [h3] at b2; cases b2
          obtain ⟨t2, d2, b4⟩ := b4'.resolve_right fun z => z _ _ rfl
          have o : Own (vs.map some) ss p := ⟨b, t2, d2, by rw [List.getElem?_map, b1]; rfl, b4⟩
          obtain ⟨k2, t3, d3, o1, o2⟩ := ownA o
          have := R1.inj i k2 p tt t3 ds d3 h1 a2 o1 o2
          subst this
          rcases sg b _ b4 with ⟨w2, hw2, k3⟩
          rcases k3 with ⟨_, k3, _⟩ | ⟨i3, t4, d4, c1, c2, c3, c4⟩ | ⟨_, _, _, z, _⟩
          · exact absurd rfl (k3 t2 d2)
          rotate_left
          · cases z
          rw [b1] at hw2; cases hw2
          have := R1.inj i i3 p tt t4 ds d4 h1 a2 c4 c3
          subst this
          exact a1 (agI_mem c1)
      · rcases src j _ h4 with ⟨b1, b2⟩ | ⟨b, w', b1, b2, b3, b4', b5⟩
        · exfalso
          rw [h1] at a2; cases a2
          obtain ⟨t1, d1, a4⟩ := a4'.resolve_right fun z => z _ _ rfl
          rcases sg a _ a4 with ⟨w2, hw2, k3⟩
          rcases k3 with ⟨_, k3, _⟩ | ⟨i3, t4, d4, c1, c2, c3, c4⟩ | ⟨_, _, _, z, _⟩
          · exact absurd rfl (k3 t1 d1)
          rotate_left
          · cases z
          rw [a1] at hw2; cases hw2
          have := R1.inj j i3 p uu t4 es d4 h3 b2 c4 c3
          subst this
          exact b1 (agI_mem c1)
        · rw [h1] at a2; cases a2
          rw [h3] at b2; cases b2
          have hab := R2.inj a b p tt uu ds es (by rw [List.getElem?_map, a1]; rfl) a3 (by rw [List.getElem?_map, b1]; rfl) b3
          subst hab
          rw [a5] at b5; cases b5
          rfl
  have st3 : Stp σ δ1 G1 H1 σ (agB as ss' δ1) G2 H2 := by
    refine ⟨fun a o h n => ?_, st2.dom, st2.same, fun a o h => ?_⟩
    · obtain ⟨k1, k2⟩ := st2.keep a o h fun z => n (ownA z)
      refine ⟨k1, ?_⟩
      rintro ⟨k, t, ds, z1, z2⟩
      rcases src k _ z2 with ⟨y1, y2⟩ | ⟨j, w, y1, y2, y3, _⟩
      · exact n ⟨k, t, ds, z1, y2⟩
      · rw [z1] at y2; cases y2
        exact k2 ⟨j, t, ds, by rw [List.getElem?_map, y1]; rfl, y3⟩
    · rcases st2.grow a o h with h | h | h
      · exact .inl h
      · exact .inr (.inl h)
      · exact .inr (.inr (ownA h))
  refine q v G2 H2 R3 st3 ?_
  cases r1 with
  | no => exact rv
  | im d => exact rv
  | fz d => exact rv
  | raw d => exact rv
  | mo d => exact rv
  | bx t ds =>
    obtain ⟨p, ws, h1, h2, h3, h4, h5, h6⟩ := rv
    refine ⟨p, ws, h1, h2, h3, ?_, h5, h6⟩
    rintro ⟨k, u, d2, z1, z2⟩
    rcases src k _ z2 with ⟨y1, y2⟩ | ⟨j, w, y1, y2, y3, _⟩
    · obtain ⟨_, t2, ws2, z3⟩ := R1.gOwn ⟨k, u, d2, z1, y2⟩
      exact z3.not h5
    · rw [z1] at y2; cases y2
      exact h4 ⟨j, u, d2, by rw [List.getElem?_map, y1]; rfl, y3⟩
theorem call_go [Still ‹Memo›] {n : Nat} {f : Fn} {as : List Ag} {H : Hp} {Q : VK} {E : XK} (nd : (agI as).Nodup) (hn : as.length = n) (h : tD K (dCall f as) σ H Q) : tAg K as σ H fun vs H1 => spD K n f vs H1 Q E := by
  obtain ⟨G, δ, r, δ', R, e, q⟩ := h
  obtain ⟨⟨ps, δ1⟩, e1, e⟩ := bind_some_of e
  obtain ⟨ss, e2, e⟩ := bind_some_of e
  obtain ⟨⟨r1, ss'⟩, e3, e⟩ := bind_some_of e
  cases e
  exact ⟨G, δ, ps, δ1, R, e1, fun vs G1 H1 R1 st1 aw => call_core nd hn R1 aw e2 e3 (.inl Still.st) fun v G2 H2 R2 st2 rv => q v G2 H2 R2 (st1.trans st2) (rv.ahead st1)⟩
/-- which objects that remember are among the slots handed on: all -/
def moIn (l : List Nat) : Nat → List Sl → Bool
  | _, [] => true
  | i, .mo _ :: r => l.contains i && moIn l (i + 1) r
  | i, _ :: r => moIn l (i + 1) r
theorem moIn_get {l : List Nat} : ∀ {δ : List Sl} {k i : Nat} {x : Inf}, moIn l k δ = true → δ[i]? = some (.mo x) → k + i ∈ l
  | [], _, _, _, _, e => by simp at e
  | s :: r, k, 0, x, h, e => by
    have e : s = .mo x := by simpa using e
    subst e
    have h : (l.contains k && moIn l (k + 1) r) = true := h
    rw [Bool.and_eq_true, List.contains_eq_mem] at h
    exact of_decide_eq_true h.1
  | s :: r, k, i + 1, x, h, e => by
    have h : moIn l (k + 1) r = true := by
      cases s with
      | mo y =>
        have h : (l.contains k && moIn l (k + 1) r) = true := h
        rw [Bool.and_eq_true] at h
        exact h.2
      | _ => exact h
    have := moIn_get (k := k + 1) h (by simpa using e)
    rwa [show k + 1 + i = k + (i + 1) by omega] at this
def dCallM (f : Fn) (as : List Ag) : Ex := fun δ => (agE as δ).bind fun x => if moIn (agI as) 0 x.2 = true then (agS as x.1 x.2).bind fun ss => (f ss).bind fun y => some (y.1, agB as y.2 x.2) else none
theorem callM_go {n : Nat} {f : Fn} {as : List Ag} {H : Hp} {Q : VK} {E : XK} (nd : (agI as).Nodup) (hn : as.length = n) (h : tD K (dCallM f as) σ H Q) : tAg K as σ H fun vs H1 => spD K n f vs H1 Q E := by
  obtain ⟨G, δ, r, δ', R, e, q⟩ := h
  obtain ⟨⟨ps, δ1⟩, e1, e⟩ := bind_some_of e
  obtain ⟨hm, e⟩ := (show moIn (agI as) 0 δ1 = true ∧ ((agS as ps δ1).bind fun ss => (f ss).bind fun y => some (y.1, agB as y.2 δ1)) = some (r, δ') by
    by_cases z : moIn (agI as) 0 δ1 = true
    · rw [if_pos z] at e; exact ⟨z, e⟩
    · rw [if_neg z] at e; cases e)
  obtain ⟨ss, e2, e⟩ := bind_some_of e
  obtain ⟨⟨r1, ss'⟩, e3, e⟩ := bind_some_of e
  cases e
  exact ⟨G, δ, ps, δ1, R, e1, fun vs G1 H1 R1 st1 aw => call_core nd hn R1 aw e2 e3 (.inr fun i x h => by have := moIn_get hm h; rwa [Nat.zero_add] at this) fun v G2 H2 R2 st2 rv => q v G2 H2 R2 (st1.trans st2) (rv.ahead st1)⟩
end
end CK
/-! targets, loops, comprehensions -/
namespace CK
open PySem PySem.Spec PyProof.Rows L2
variable [Memo]

/-! ### targets -/
abbrev Tg := PyData → List Sl → Option (List Sl)
def tG (K : PySem.W.Frag) (P : List Nat) (t : Tg) : TG := fun v σ H Q => ∃ (G : Hp) (δ : List Sl) (d : PyData) (δ' : List Sl), Rel K G H σ δ ∧ Rp K G v d ∧ t d δ = some δ' ∧
  ∀ (σ' : SS), Rel K G H σ' δ' → Stp σ δ G H σ' δ' G H → Pin P σ σ' → Q σ' H
def tGs (K : PySem.W.Frag) (P : List Nat) (t : List PyData → List Sl → Option (List Sl)) : TGs := fun vs σ H Q => ∃ (G : Hp) (δ : List Sl) (ds : List PyData) (δ' : List Sl), Rel K G H σ δ ∧ RpAll K G vs ds ∧ t ds δ = some δ' ∧
  ∀ (σ' : SS), Rel K G H σ' δ' → Stp σ δ G H σ' δ' G H → Pin P σ σ' → Q σ' H
theorem PG.by {X : Cx} {e : Expr} {t t' : TG} (h : PG X e t) (w : ∀ v σ H Q, t' v σ H Q → t v σ H Q) : PG X e t' := ⟨fun pins s σ H v u Q I r q => h.run pins s σ H v u Q I r (w v σ H Q q)⟩
theorem PGs.by {X : Cx} {e : List Expr} {t t' : TGs} (h : PGs X e t) (w : ∀ v σ H Q, t' v σ H Q → t v σ H Q) : PGs X e t' := ⟨fun pins s σ H v u Q I r q => h.run pins s σ H v u Q I r (w v σ H Q q)⟩
def tgN (i : Nat) : Tg := fun d δ => some (δ.set i (.im d))
def tgT (t : List PyData → List Sl → Option (List Sl)) : Tg := fun d δ => match d with
  | .tuple ds => t ds δ
  | _ => none
def tgNil : List PyData → List Sl → Option (List Sl) := fun ds δ => match ds with
  | [] => some δ
  | _ => none
def tgCons (t : Tg) (u : List PyData → List Sl → Option (List Sl)) : List PyData → List Sl → Option (List Sl) := fun ds δ => match ds with
  | d :: r => (t d δ).bind fun δ1 => u r δ1
  | _ => none
section
variable {X : Cx} {P : List Nat} {pos : Pos} {e : Expr} {es : List Expr} {t : Tg} {u : List PyData → List Sl → Option (List Sl)}
theorem dg_name {i : Nat} {x : Str} (hN : X.N.Nodup) (hi : X.N[i]? = some x) (hx : Loc X.env.scope x) (hp : P.contains i = false := by rfl) (hf : X.fn x = true ∨ X.env.scope.names.lookup x = some .local := by first | exact .inl rfl | exact .inr rfl | assumption) :
    PG X (.Name x pos) (tG X.K P (tgN i)) := PG.by (pg_name hN hi hx hf) fun v σ H Q h => by
  obtain ⟨G, δ, d, δ', R, r, e, q⟩ := h
  cases e
  exact q _ (R.set ⟨v, rfl, r⟩ fun _ _ _ e => nomatch e) (Stp.setR R Stp.refl fun _ _ _ e => nomatch e) (Pin.set hp)
theorem dgs_nil : PGs X [] (tGs X.K P tgNil) := PGs.by pgs_nil fun v σ H Q h => by
  obtain ⟨G, δ, ds, δ', R, r, e, q⟩ := h
  unfold tgNil at e
  split at e
  · cases e; cases r
    exact ⟨rfl, q σ R Stp.refl Pin.refl⟩
  · cases e
theorem dgs_cons (h1 : PG X e (tG X.K P t)) (h2 : PGs X es (tGs X.K P u)) (hs : (assignEach (e :: es) X.env).map (·.2) = assign e X.env :: (assignEach es X.env).map (·.2) := by rfl) : PGs X (e :: es) (tGs X.K P (tgCons t u)) := PGs.by (pgs_cons h1 h2 hs) fun vs σ H Q h => by
  obtain ⟨G, δ, ds, δ', R, r, e, q⟩ := h
  unfold tgCons at e
  split at e
  · rename_i d ds' 
    obtain ⟨δ1, e1, e⟩ := bind_some_of e
    cases r with
    | cons r1 r2 =>
      refine ⟨_, _, rfl, G, δ, d, δ1, R, r1, e1, fun σ1 R1 st1 p1 => ?_⟩
      exact ⟨G, δ1, ds', δ', R1, r2, e, fun σ2 R2 st2 p2 => q σ2 R2 (st1.trans st2) (p1.trans p2)⟩
  · cases e
theorem dg_tup {k : Nat} {n : Nat} (hc : X.calm = true) (h : PGs X es (tGs X.K P u)) (hl : ∀ ds δ δ', u ds δ = some δ' → ds.length = n) (hn : (assignEach es X.env).length = n := by rfl) (hst : (assignEach es X.env).findIdx? (·.1) = none := by rfl) :
    PG X (.Tuple es k pos) (tG X.K P (tgT u)) := PG.by (pg_tup hc h hn hst) fun v σ H Q h => by
  obtain ⟨G, δ, d, δ', R, r, e, q⟩ := h
  unfold tgT at e
  split at e
  · rename_i ds
    cases r with
    | tup hq ra =>
      exact ⟨_, _, rfl, sqT_same R.sub hq, by rw [ra.length]; exact hl ds δ δ' e, G, δ, ds, δ', R, ra, e, q⟩
  · cases e
end
theorem tgNil_len : ∀ ds δ δ', tgNil ds δ = some δ' → ds.length = 0 := fun ds δ δ' h => by
  unfold tgNil at h
  split at h
  · rfl
  · cases h
theorem tgCons_len {t : Tg} {u : List PyData → List Sl → Option (List Sl)} {n : Nat} (hu : ∀ ds δ δ', u ds δ = some δ' → ds.length = n) : ∀ ds δ δ', tgCons t u ds δ = some δ' → ds.length = n + 1 := fun ds δ δ' h => by
  unfold tgCons at h
  split at h
  · obtain ⟨δ1, _, h⟩ := bind_some_of h
    rw [List.length_cons, hu _ _ _ h]
  · cases h

/-- target = value -/
def sAsg (t : Tg) (F : Ex) : Sm := fun δ => (F δ).bind fun x => x.1.sh.bind fun d => (t d x.2).bind fun δ1 => some (.nx, δ1)
theorem ds_asg {X : Cx} {P : List Nat} {tg e : Expr} {F : Ex} {t : Tg} {pos : Pos} (he : DE X e F) (hg : PG X tg (tG X.K P t)) (hs : swapsWithSole [tg] e pos.line X.env = pure false := by rfl) (hw : swappedStores [tg] e X.env = pure none := by rfl)
    (h1 : (assignEach [tg] X.env).map (·.2) = [assign tg X.env] := by rfl) : DS X P (.Assign [tg] e pos) (sAsg t F) := PS.by (ps_asg he hg hs hw h1) fun D σ H h => by
  obtain ⟨G, δ, fl, δ', R, e, q⟩ := h
  obtain ⟨⟨r, δ1⟩, e1, e⟩ := bind_some_of e
  obtain ⟨d, e2, e⟩ := bind_some_of e
  obtain ⟨δ2, e3, e⟩ := bind_some_of e
  cases e
  refine tD_run R e1 fun v G' H' R' st rv => ?_
  obtain ⟨G2, R2, st2, _, rp⟩ := RV.shared R' st rv e2
  exact ⟨G2, δ1, d, _, R2, rp, e3, fun σ' R3 st3 p3 => q σ' G2 H' R3 (st2.trans st3) p3⟩

/-! ### what is walked -/
abbrev It' := List Sl → Option (List PyData × List Sl)
structure Walks (K : PySem.W.Frag) (J : It) (G0 : Hp) (items : List PyData) : Prop where
  go : ∀ (i : Nat) (G H : Hp), Same G0 G → Same G H → i < items.length → J.go i H
  stop : ∀ (i : Nat) (G H : Hp), Same G0 G → Same G H → items.length ≤ i → J.stop i H
  yld : ∀ (i : Nat) (G H : Hp) (x : V) (H' : Hp), Same G0 G → Same G H → i < items.length → J.yld i H x H' → ∃ d, items[i]? = some d ∧
    ((H' = H ∧ Rp K G x d) ∨ ∃ T ws ds, x = .ref T ∧ d = .tuple ds ∧ H T = none ∧ H' = upd H T (.tup ws) ∧ RpAll K G ws ds)
def tI (K : PySem.W.Frag) (I : It') : TI := fun σ H R => ∃ (G : Hp) (δ : List Sl) (items : List PyData) (δ' : List Sl), Rel K G H σ δ ∧ I δ = some (items, δ') ∧
  ∀ (J : It) (G' H' : Hp), Rel K G' H' σ δ' → Stp σ δ G H σ δ' G' H' → Walks K J G' items → R J H'
abbrev DI (X : Cx) (tg e : Expr) (I : It') : Prop := PI X tg e (tI X.K I)
theorem PI.by {X : Cx} {tg e : Expr} {t t' : TI} (h : PI X tg e t) (w : ∀ σ H R, t' σ H R → t σ H R) : PI X tg e t' := ⟨fun pins s σ H R I q => h.run pins s σ H R I (w σ H R q)⟩

/-- the turns of a loop -/
def loopD (tg : Tg) (S : Sm) : List PyData → Sm
  | [], δ => some (.nx, δ)
  | d :: ds, δ => (tg d δ).bind fun δ1 => (S δ1).bind fun x => match x.1 with
    | .nx => loopD tg S ds x.2
    | .ct => loopD tg S ds x.2
    | .bk => some (.nx, x.2)
    | .rt r => some (.rt r, x.2)
def sFor (I : It') (tg : Tg) (S : Sm) : Sm := fun δ => (I δ).bind fun x => loopD tg S x.1 x.2
theorem drop_of {α : Type} {l : List α} {i : Nat} {d : α} (h : l[i]? = some d) : l.drop i = d :: l.drop (i + 1) := by
  obtain ⟨hl, e⟩ := List.getElem?_eq_some_iff.mp h
  rw [List.drop_eq_getElem_cons hl, e]
section
variable {K : PySem.W.Frag} {P : List Nat}
theorem for_go {I : It'} {tg : Tg} {S : Sm} {D : Ends} {σ : SS} {H : Hp} (h : tS K P (sFor I tg S) D σ H) : tFor (tI K I) (tG K P tg) (tS K P S) D σ H := by
  obtain ⟨G, δ, fl, δ', R, e, q⟩ := h
  obtain ⟨⟨items, δ1⟩, e1, e⟩ := bind_some_of e
  refine ⟨G, δ, items, δ1, R, e1, fun J G1 H1 R1 st1 wk => ?_⟩
  refine ⟨fun i m σ2 H2 => m = items.length - i ∧ i ≤ items.length ∧ ∃ (G2 : Hp) (δ2 : List Sl), Rel K G2 H2 σ2 δ2 ∧ Same G1 G2 ∧ Stp σ δ G H σ2 δ2 G2 H2 ∧ Pin P σ σ2 ∧ loopD tg S (items.drop i) δ2 = some (fl, δ'),
    ⟨items.length, by simp, Nat.zero_le _, G1, δ1, R1, Same.refl _, st1, Pin.refl, e⟩, ?_⟩
  rintro i m σ2 H2 ⟨rfl, hi, G2, δ2, R2, sg, st2, p2, el⟩
  by_cases hlt : i < items.length
  · refine .inr ⟨wk.go i G2 H2 sg R2.sub hlt, fun σ3 H3 => ∃ (G3 : Hp) (δ3 : List Sl), Rel K G3 H3 σ3 δ3 ∧ Same G1 G3 ∧ Stp σ δ G H σ3 δ3 G3 H3 ∧ Pin P σ σ3 ∧ loopD tg S (items.drop (i + 1)) δ3 = some (fl, δ'),
      fun σ3 H3 h => ⟨items.length - (i + 1), by omega, rfl, hlt, h⟩, fun x H3 y => ?_⟩
    obtain ⟨d, hd, hy⟩ := wk.yld i G2 H2 x H3 sg R2.sub hlt y
    rw [drop_of hd] at el
    obtain ⟨δ3, e3, el⟩ := bind_some_of el
    obtain ⟨⟨f4, δ4⟩, e4, el⟩ := bind_some_of el
    have go : ∀ {G3 H3 : Hp}, Rel K G3 H3 σ2 δ2 → Same G2 G3 → Stp σ2 δ2 G2 H2 σ2 δ2 G3 H3 → Rp K G3 x d → tG K P tg x σ2 H3 fun σ3 H4 => tS K P S { D with nx := fun σ3 H3 => ∃ (G3 : Hp) (δ3 : List Sl), Rel K G3 H3 σ3 δ3 ∧ Same G1 G3 ∧ Stp σ δ G H σ3 δ3 G3 H3 ∧ Pin P σ σ3 ∧ loopD tg S (items.drop (i + 1)) δ3 = some (fl, δ'), ct := fun σ3 H3 => ∃ (G3 : Hp) (δ3 : List Sl), Rel K G3 H3 σ3 δ3 ∧ Same G1 G3 ∧ Stp σ δ G H σ3 δ3 G3 H3 ∧ Pin P σ σ3 ∧ loopD tg S (items.drop (i + 1)) δ3 = some (fl, δ'), bk := D.nx } σ3 H4 := fun {G3 H3} R3 sg3 st3 rp => by
      refine ⟨G3, δ2, d, δ3, R3, rp, e3, fun σ4 R4 st4 p4 => ?_⟩
      refine tS_run R4 e4 fun σ5 G5 H5 R5 st5 p5 => ?_
      have stA : Stp σ δ G H σ5 δ4 G5 H5 := ((st2.trans st3).trans st4).trans st5
      have pA : Pin P σ σ5 := (p2.trans p4).trans p5
      have sgA : Same G1 G5 := ((sg.trans sg3).trans st4.same).trans st5.same
      cases f4 with
      | nx => exact ⟨G5, δ4, R5, sgA, stA, pA, el⟩
      | ct => exact ⟨G5, δ4, R5, sgA, stA, pA, el⟩
      | bk => cases el; exact q σ5 G5 H5 R5 stA pA
      | rt r =>
        cases el
        exact endOf.ahead (D := D) ((st2.trans st3).trans st4) (q σ5 G5 H5 R5 stA pA)
    rcases hy with ⟨rfl, rp⟩ | ⟨T, ws, ds, rfl, rfl, hT, rfl, ra⟩
    · exact go R2 (Same.refl _) Stp.refl rp
    · obtain ⟨R3, sg3⟩ := R2.newS (o := .tup ws) hT
      exact go R3 sg3 ((Stp.new (G := G2) hT).share hT (gfree R2.sub hT)) (.tup (SqT.of upd_same) (ra.same sg3))
  · have e0 : i = items.length := by omega
    subst e0
    rw [List.drop_length] at el
    cases el
    exact .inl ⟨wk.stop _ G2 H2 sg R2.sub (Nat.le_refl _), q σ2 G2 H2 R2 st2 p2⟩
end
theorem ds_for {X : Cx} {P : List Nat} {tg iter : Expr} {body : List Stmt} {I : It'} {t : Tg} {S : Sm} {pos : Pos} (hp : PassesOwn (model X.prog X.w) X.A X.env X.xe) (hc : X.calm = true) (hi : DI X tg iter I) (hg : PG X tg (tG X.K P t)) (hb : DSs X P body S)
    (hs : ∀ x, foldedSetIterable iter X.env x = pure x := by intro _; rfl) : DS X P (.For tg iter body [] pos) (sFor I t S) := PS.by (ps_for hp hc hi hg hb hs) fun D σ H h => for_go h

/-! ### while -/
def whileD (c : Tt) (S : Sm) : Nat → Sm
  | 0, _ => none
  | n + 1, δ => (c δ).bind fun x => if x.1 = true then (S x.2).bind fun y => (match y.1 with
      | .nx => whileD c S n y.2
      | .ct => whileD c S n y.2
      | .bk => some (.nx, y.2)
      | .rt r => some (.rt r, y.2)) else some (.nx, x.2)
open Classical in
noncomputable def sWhile (c : Tt) (S : Sm) : Sm := fun δ => if h : ∃ n, (whileD c S n δ).isSome = true then whileD c S h.choose δ else none
theorem whileD_mono {c : Tt} {S : Sm} : ∀ {n m : Nat} {δ : List Sl} {r : Fl × List Sl}, whileD c S n δ = some r → n ≤ m → whileD c S m δ = some r
  | 0, _, _, _, h, _ => by cases h
  | n + 1, 0, _, _, _, h => by omega
  | n + 1, m + 1, δ, r, h, hm => by
    obtain ⟨⟨b, δ1⟩, e1, h⟩ := bind_some_of h
    unfold whileD
    rw [e1]
    show (if b = true then _ else _) = _
    cases b with
    | false => exact h
    | true =>
      rw [if_pos rfl] at h ⊢
      obtain ⟨⟨f, δ2⟩, e2, h⟩ := bind_some_of h
      rw [e2]
      cases f with
      | nx => exact whileD_mono (n := n) (m := m) h (by omega)
      | ct => exact whileD_mono (n := n) (m := m) h (by omega)
      | bk => exact h
      | rt v => exact h
theorem sWhile_of {c : Tt} {S : Sm} {n : Nat} {δ : List Sl} {r : Fl × List Sl} (h : whileD c S n δ = some r) : sWhile c S δ = some r := by
  have ex : ∃ n, (whileD c S n δ).isSome = true := ⟨n, by rw [h]; rfl⟩
  unfold sWhile
  rw [dif_pos ex]
  have hc := ex.choose_spec
  obtain ⟨r', hr⟩ := Option.isSome_iff_exists.mp hc
  rw [hr]
  rcases Nat.le_total n ex.choose with hl | hl
  · rw [whileD_mono h hl] at hr
    exact hr.symm
  · rw [whileD_mono hr hl] at h
    exact h
theorem while_go {K : PySem.W.Frag} {P : List Nat} {c : Tt} {S : Sm} {D : Ends} {σ : SS} {H : Hp} (h : tS K P (sWhile c S) D σ H) : tWhile (tT K c) (tS K P S) D σ H := by
  obtain ⟨G, δ, fl, δ', R, e, q⟩ := h
  unfold sWhile at e
  split at e
  · rename_i ex
    refine ⟨fun m σ2 H2 => ∃ (G2 : Hp) (δ2 : List Sl), Rel K G2 H2 σ2 δ2 ∧ Stp σ δ G H σ2 δ2 G2 H2 ∧ Pin P σ σ2 ∧ whileD c S m δ2 = some (fl, δ'), ⟨_, G, δ, R, Stp.refl, Pin.refl, e⟩, ?_⟩
    rintro m σ2 H2 ⟨G2, δ2, R2, st2, p2, e2⟩
    cases m with
    | zero => cases e2
    | succ m =>
      obtain ⟨⟨b, δ3⟩, e3, e2⟩ := bind_some_of e2
      refine tT_bind R2 e3 fun G3 H3 R3 st3 => ?_
      cases b with
      | false =>
        rw [if_neg Bool.false_ne_true] at e2 ⊢
        cases e2
        exact q σ2 G3 H3 R3 (st2.trans st3) p2
      | true =>
        rw [if_pos rfl] at e2 ⊢
        obtain ⟨⟨f4, δ4⟩, e4, e2⟩ := bind_some_of e2
        refine ⟨fun σ4 H4 => ∃ (G2 : Hp) (δ2 : List Sl), Rel K G2 H4 σ4 δ2 ∧ Stp σ δ G H σ4 δ2 G2 H4 ∧ Pin P σ σ4 ∧ whileD c S m δ2 = some (fl, δ'), fun σ4 H4 h => ⟨m, by omega, h⟩, ?_⟩
        refine tS_run R3 e4 fun σ5 G5 H5 R5 st5 p5 => ?_
        have stA := (st2.trans st3).trans st5
        have pA := p2.trans p5
        cases f4 with
        | nx => exact ⟨G5, δ4, R5, stA, pA, e2⟩
        | ct => exact ⟨G5, δ4, R5, stA, pA, e2⟩
        | bk => cases e2; exact q σ5 G5 H5 R5 stA pA
        | rt r => cases e2; exact endOf.ahead (D := D) (st2.trans st3) (q σ5 G5 H5 R5 stA pA)
  · cases e
theorem ds_while {X : Cx} {P : List Nat} {c : Expr} {body : List Stmt} {C : Tt} {S : Sm} {pos : Pos} (hp : PassesOwn (model X.prog X.w) X.A X.env X.xe) (hc : DT X c C) (hb : DSs X P body S) : DS X P (.While c body [] pos) (sWhile C S) := PS.by (ps_while hp hc hb) fun D σ H h => while_go h
end CK
/-! list comprehensions; what a loop walks -/
namespace CK
open PySem PySem.Spec PyProof.Rows L2
variable [Memo]

def wipeD (δ : List Sl) : List Nat → List Sl
  | [] => δ
  | v :: vs => (wipeD δ vs).set v .no
/-- the block's own names: no list of its own stands there -/
def calmD (δ : List Sl) (vs : List Nat) : Bool := vs.all fun i => match δ[i]? with
  | some (.bx _ _) => false
  | some (.mo _) => false
  | _ => true
/-- the slots behind a block: its own names as they were -/
def unwipe (δ0 δ : List Sl) : List Nat → List Sl
  | [] => δ
  | v :: vs => (unwipe δ0 δ vs).set v (δ0[v]?.getD .no)
def lcD (tg : Tg) (c : Tt) (F : Ex) (vs : List Nat) : List PyData → List PyData → List Sl → Option (List PyData × List Sl)
  | [], acc, δ => some (acc, δ)
  | d :: ds, acc, δ => (tg d (wipeD δ vs)).bind fun δ1 => (c δ1).bind fun x => if x.1 = true then
      (F x.2).bind fun y => y.1.sh.bind fun v => if acc.length < LINE then lcD tg c F vs ds (acc ++ [v]) y.2 else none
    else lcD tg c F vs ds acc x.2
def dLc (I : It') (tg : Tg) (c : Tt) (F : Ex) (vs : List Nat) : Ex := fun δ => (I δ).bind fun x => if calmD x.2 vs = true then
  (lcD tg c F vs x.1 [] x.2).bind fun y => some (.bx .l y.1, unwipe x.2 y.2 vs) else none
section
variable {K : PySem.W.Frag} {G H : Hp} {σ σ' : SS} {δ δ' δ0 : List Sl}
theorem wipe_get {vs : List Nat} {i : Nat} : (wipe σ vs)[i]? = if i ∈ vs ∧ i < σ.length then some none else σ[i]? := by
  induction vs with
  | nil => simp [wipe]
  | cons v vs ih =>
    unfold wipe
    by_cases h : v = i
    · subst h
      by_cases hl : v < σ.length
      · rw [List.getElem?_set_self (by rw [wipe_length]; exact hl), if_pos ⟨List.mem_cons_self, hl⟩]
      · rw [List.getElem?_eq_none (by rw [List.length_set, wipe_length]; omega), if_neg (fun z => hl z.2), List.getElem?_eq_none (by omega)]
    · rw [List.getElem?_set_ne h, ih]
      have : i ∈ v :: vs ↔ i ∈ vs := by simp [List.mem_cons, Ne.symm h]
      simp only [this]
theorem wipeD_len : ∀ vs : List Nat, (wipeD δ vs).length = δ.length
  | [] => rfl
  | v :: vs => by unfold wipeD; rw [List.length_set, wipeD_len vs]
theorem wipeD_get {vs : List Nat} {i : Nat} : (wipeD δ vs)[i]? = if i ∈ vs ∧ i < δ.length then some .no else δ[i]? := by
  induction vs with
  | nil => simp [wipeD]
  | cons v vs ih =>
    unfold wipeD
    by_cases h : v = i
    · subst h
      by_cases hl : v < δ.length
      · rw [List.getElem?_set_self (by rw [wipeD_len]; exact hl), if_pos ⟨List.mem_cons_self, hl⟩]
      · rw [List.getElem?_eq_none (by rw [List.length_set, wipeD_len]; omega), if_neg (fun z => hl z.2), List.getElem?_eq_none (by omega)]
    · rw [List.getElem?_set_ne h, ih]
      have : i ∈ v :: vs ↔ i ∈ vs := by simp [List.mem_cons, Ne.symm h]
      simp only [this]
theorem unwipe_len : ∀ vs : List Nat, (unwipe δ0 δ vs).length = δ.length
  | [] => rfl
  | v :: vs => by unfold unwipe; rw [List.length_set, unwipe_len vs]
theorem unwipe_get {vs : List Nat} {i : Nat} : (unwipe δ0 δ vs)[i]? = if i ∈ vs ∧ i < δ.length then some (δ0[i]?.getD .no) else δ[i]? := by
  induction vs with
  | nil => simp [unwipe]
  | cons v vs ih =>
    unfold unwipe
    by_cases h : v = i
    · subst h
      by_cases hl : v < δ.length
      · rw [List.getElem?_set_self (by rw [unwipe_len]; exact hl), if_pos ⟨List.mem_cons_self, hl⟩]
      · rw [List.getElem?_eq_none (by rw [List.length_set, unwipe_len]; omega), if_neg (fun z => hl z.2), List.getElem?_eq_none (by omega)]
    · rw [List.getElem?_set_ne h, ih]
      have : i ∈ v :: vs ↔ i ∈ vs := by simp [List.mem_cons, Ne.symm h]
      simp only [this]
/-- σ2 is σ outside of the block's names -/
theorem wipe_eq {vs : List Nat} {i : Nat} (h : wipe σ' vs = wipe σ vs) (hi : i ∉ vs) : σ'[i]? = σ[i]? := by
  have := congrArg (fun l => l[i]?) h
  simp only [wipe_get, hi, false_and, if_false] at this
  exact this
theorem wipe_len_eq {vs : List Nat} (h : wipe σ' vs = wipe σ vs) : σ'.length = σ.length := by
  have := congrArg List.length h
  rw [wipe_length, wipe_length] at this
  exact this
theorem Rel.wipe {vs : List Nat} (R : Rel K G H σ' δ) (h : L2.wipe σ' vs = L2.wipe σ vs) : Rel K G H (L2.wipe σ vs) (wipeD δ vs) := by
  have hl := wipe_len_eq h
  refine ⟨R.sub, by rw [wipe_length, wipeD_len, ← hl]; exact R.len, fun i s e => ?_, fun i j p tt uu ds es h1 h2 h3 h4 => ?_, R.inv⟩
  · rw [wipeD_get] at e
    split at e
    · cases e; trivial
    · rename_i hn
      rw [← h, wipe_get, if_neg (by rw [R.len]; exact hn)]
      exact R.slot i s e
  · rw [wipeD_get] at h2 h4
    split at h2
    · cases h2
    · split at h4
      · cases h4
      · rename_i n1 n2
        rw [← h, wipe_get, if_neg (by rw [R.len]; exact n1)] at h1
        rw [← h, wipe_get, if_neg (by rw [R.len]; exact n2)] at h3
        exact R.inj i j p tt uu ds es h1 h2 h3 h4
theorem own_wipe {vs : List Nat} {a : Addr} (R : Rel K G H σ δ) (h : Own (L2.wipe σ vs) (wipeD δ vs) a) : Own σ δ a := by
  obtain ⟨i, t, ds, h1, h2⟩ := h
  rw [wipeD_get] at h2
  split at h2
  · cases h2
  · rename_i n
    rw [wipe_get, if_neg (by rw [R.len]; exact n)] at h1
    exact ⟨i, t, ds, h1, h2⟩
theorem own_unwiped {vs : List Nat} {a : Addr} (R : Rel K G H σ δ) (hc : calmD δ vs = true) (h : Own σ δ a) : Own (L2.wipe σ vs) (wipeD δ vs) a := by
  obtain ⟨i, t, ds, h1, h2⟩ := h
  have hn : i ∉ vs := fun z => by
    unfold calmD at hc
    have := List.all_eq_true.mp hc i z
    rw [h2] at this
    cases this
  exact ⟨i, t, ds, by rw [wipe_get, if_neg (fun z => hn z.1)]; exact h1, by rw [wipeD_get, if_neg (fun z => hn z.1)]; exact h2⟩
/-- back outside -/
theorem Rel.unwipe {vs : List Nat} {G0 H0 : Hp} (R0 : Rel K G0 H0 σ δ0) (hc : calmD δ0 vs = true) (sg : Same G0 G) (hle : δ0.length = δ.length) (R : Rel K G H (L2.wipe σ vs) (wipeD δ vs)) : Rel K G H σ (CK.unwipe δ0 δ vs) := by
  have sl : σ.length = δ.length := by rw [R0.len, hle]
  have cm : ∀ {i : Nat} {t : Bt} {ds : List PyData}, i ∈ vs → δ0[i]? ≠ some (.bx t ds) := fun {i t ds} hi e => by
    unfold calmD at hc
    have := List.all_eq_true.mp hc i hi
    rw [e] at this
    cases this
  have rd : ∀ {i : Nat} {s : Sl}, ¬ (i ∈ vs ∧ i < δ.length) → δ[i]? = some s → (wipeD δ vs)[i]? = some s ∧ (L2.wipe σ vs)[i]? = σ[i]? := fun {i s} hn e => ⟨by rw [wipeD_get, if_neg hn]; exact e, by rw [wipe_get, if_neg (by rw [sl]; exact hn)]⟩
  refine ⟨R.sub, by rw [unwipe_len]; exact sl, fun i s e => ?_, fun i j p tt uu ds es h1 h2 h3 h4 => ?_, R.inv⟩
  · rw [unwipe_get] at e
    split at e
    · rename_i hi
      cases h0 : δ0[i]? with
      | none => rw [h0] at e; cases e; trivial
      | some s0 =>
        rw [h0] at e; cases e
        refine (R0.slot i s0 h0).same sg (fun p t ws ds e => absurd (by rw [← e]; exact h0) (cm (t := t) (ds := ds) hi.1)) fun x p e => ?_
        unfold calmD at hc
        have := List.all_eq_true.mp hc i hi.1
        rw [h0, e] at this
        cases this
    · rename_i hn
      obtain ⟨w1, w2⟩ := rd hn e
      rw [← w2]
      exact R.slot i s w1
  · have pick : ∀ {k : Nat} {t : Bt} {d : List PyData}, (CK.unwipe δ0 δ vs)[k]? = some (.bx t d) → ¬ (k ∈ vs ∧ k < δ.length) ∧ δ[k]? = some (.bx t d) := fun {k t d} e => by
      rw [unwipe_get] at e
      split at e
      · rename_i hk
        cases h0 : δ0[k]? with
        | none => rw [h0] at e; cases e
        | some s0 =>
          rw [h0] at e; cases e
          exact absurd h0 (cm hk.1)
      · rename_i hk; exact ⟨hk, e⟩
    obtain ⟨n1, k1⟩ := pick h2
    obtain ⟨n2, k2⟩ := pick h4
    obtain ⟨w1, w2⟩ := rd n1 k1
    obtain ⟨w3, w4⟩ := rd n2 k2
    exact R.inj i j p tt uu ds es (by rw [w2]; exact h1) w1 (by rw [w4]; exact h3) w3
theorem own_unwipe {vs : List Nat} {G0 H0 : Hp} {a : Addr} (R0 : Rel K G0 H0 σ δ0) (hc : calmD δ0 vs = true) (hle : δ0.length = δ.length) (h : Own σ (CK.unwipe δ0 δ vs) a) : Own (L2.wipe σ vs) (wipeD δ vs) a := by
  obtain ⟨i, t, ds, h1, h2⟩ := h
  have sl : σ.length = δ.length := by rw [R0.len, hle]
  rw [unwipe_get] at h2
  split at h2
  · rename_i hk
    cases h0 : δ0[i]? with
    | none => rw [h0] at h2; cases h2
    | some s0 =>
      rw [h0] at h2; cases h2
      unfold calmD at hc
      have := List.all_eq_true.mp hc i hk.1
      rw [h0] at this
      cases this
  · rename_i hn
    exact ⟨i, t, ds, by rw [wipe_get, if_neg (by rw [sl]; exact hn)]; exact h1, by rw [wipeD_get, if_neg hn]; exact h2⟩
end
theorem of_ite0 {c : Prop} [Decidable c] {α : Type} {x : Option α} {z : α} (h : (if c then x else none) = some z) : c ∧ x = some z := by
  by_cases hc : c
  · rw [if_pos hc] at h; exact ⟨hc, h⟩
  · rw [if_neg hc] at h; cases h
/-- all slots but the block's own -/
def outs (n : Nat) (vs : List Nat) : List Nat := (List.range n).filter fun i => !vs.contains i
theorem outs_mem {n : Nat} {vs : List Nat} {i : Nat} (h : i < n) (hn : i ∉ vs) : i ∈ outs n vs := by
  unfold outs
  rw [List.mem_filter]
  refine ⟨List.mem_range.mpr h, ?_⟩
  rw [List.contains_eq_mem, decide_eq_false hn]
  rfl
section
variable {K : PySem.W.Frag} {G H : Hp} {σ σ' : SS} {δ δ' δ0 : List Sl}
theorem pin_wipe {vs : List Nat} {n : Nat} (hn : σ.length ≤ n) (hl : σ'.length = σ.length) (p : Pin (outs n vs) (L2.wipe σ vs) σ') : L2.wipe σ' vs = L2.wipe σ vs := by
  apply List.ext_getElem?
  intro i
  rw [wipe_get, wipe_get, hl]
  by_cases hi : i ∈ vs ∧ i < σ.length
  · rw [if_pos hi, if_pos hi]
  · rw [if_neg hi, if_neg hi]
    by_cases hlt : i < σ.length
    · have hv : i ∉ vs := fun z => hi ⟨z, hlt⟩
      have := p i (outs_mem (Nat.lt_of_lt_of_le hlt hn) hv)
      rw [this, wipe_get, if_neg hi]
    · rw [List.getElem?_eq_none (by omega), List.getElem?_eq_none (by omega)]
theorem Rel.poke (R : Rel K G H σ δ) {a : Addr} {o : HO} {ws : List V} (hl : H a = some (.lst ws)) (hg : G a = none) (hn : ¬ Own σ δ a) : Rel K G (upd H a o) σ δ :=
  ⟨fun b u e => by
    have : b ≠ a := fun z => by rw [z, hg] at e; cases e
    rw [upd_ne this]; exact R.sub _ _ e, R.len, fun i s e => (R.slot i s e).same (Same.refl _) (fun p t ws ds hs h1 h2 h3 => ⟨by
      have : p ≠ a := fun z => hn ⟨i, t, ds, by rw [← z]; exact getD_some h3, by rw [e, hs]⟩
      exact h1.upd this, h2⟩) (mSt (Same.refl _) gn_refl (stay_chg fun u e => by rw [hl] at e; cases e; exact .inl ⟨_, rfl⟩)), R.inj, jL R.inv hl⟩
theorem Stp.poke {G0 H0 : Hp} {σ0 : SS} (st : Stp σ0 δ0 G0 H0 σ δ G H) {a : Addr} {o : HO} (h0 : H0 a = none) : Stp σ0 δ0 G0 H0 σ δ G (upd H a o) :=
  ⟨fun b u e n => by
    have : b ≠ a := fun z => by rw [z, h0] at e; cases e
    exact ⟨fun nv => by rw [upd_ne this]; exact (st.keep b u e n).1 nv, (st.keep b u e n).2⟩, fun b e => by
    by_cases z : b = a
    · rw [z]; exact h0
    · rw [upd_ne z] at e; exact st.dom b e, st.same, st.grow⟩
theorem Stp.own_end {G0 H0 : Hp} {σ0 : SS} {σ2 : SS} {δ2 : List Sl} (st : Stp σ0 δ0 G0 H0 σ δ G H) (h : ∀ a, Own σ2 δ2 a → Own σ δ a) : Stp σ0 δ0 G0 H0 σ2 δ2 G H :=
  ⟨fun b u e n => ⟨(st.keep b u e n).1, fun z => (st.keep b u e n).2 (h b z)⟩, st.dom, st.same, st.grow⟩
theorem Stp.own_start {G0 H0 : Hp} {σ0 : SS} {σ2 : SS} {δ2 : List Sl} (st : Stp σ0 δ0 G0 H0 σ δ G H) (h : ∀ a, Own σ0 δ0 a → Own σ2 δ2 a) : Stp σ2 δ2 G0 H0 σ δ G H :=
  ⟨fun b u e n => st.keep b u e fun z => n (h b z), st.dom, st.same, fun b u e => by
    rcases st.grow b u e with z | z | z
    · exact .inl z
    · exact .inr (.inl z)
    · exact .inr (.inr (h b z))⟩
end
def dLc' (n : Nat) (I : It') (tg : Tg) (c : Tt) (F : Ex) (vs : List Nat) : Ex := fun δ => if δ.length ≤ n then dLc I tg c F vs δ else none
theorem lcD_len {tg : Tg} {c : Tt} {F : Ex} {vs : List Nat} : True := trivial
theorem lc_go {K : PySem.W.Frag} {I : It'} {tg : Tg} {c : Tt} {F : Ex} {vs : List Nat} {n : Nat} {σ : SS} {H : Hp} {Q : VK} (hg : ∀ d δ δ', tg d δ = some δ' → δ'.length = δ.length)
    (h : tD K (dLc' n I tg c F vs) σ H Q) : tLc (tI K I) (tG K (outs n vs) tg) (tT K c) (tD K F) vs σ H Q := by
  obtain ⟨G, δ, r, δ', R, e, q⟩ := h
  unfold dLc' at e
  obtain ⟨hln, e⟩ := of_ite0 e
  obtain ⟨⟨items, δ1⟩, e1, e⟩ := bind_some_of e
  obtain ⟨hc, e⟩ := of_ite0 e
  obtain ⟨⟨accF, δF⟩, e2, e⟩ := bind_some_of e
  cases e
  refine ⟨G, δ, items, δ1, R, e1, fun J G1 H1 R1 st1 wk D hD => ?_⟩
  have slen : σ.length ≤ n := by rw [R.len]; exact hln
  have RW0 : Rel K G1 H1 (L2.wipe σ vs) (wipeD δ1 vs) := R1.wipe rfl
  refine ⟨fun i m H' => m = items.length - i ∧ i ≤ items.length ∧ ∃ (G2 : Hp) (δ2 : List Sl) (acc : List PyData) (ws : List V), Rel K G2 H' (L2.wipe σ vs) (wipeD δ2 vs) ∧ Same G1 G2 ∧ δ2.length = δ1.length ∧ H' D = some (.lst ws) ∧ G2 D = none ∧ RpAll K G2 ws acc ∧
      ¬ Own (L2.wipe σ vs) (wipeD δ2 vs) D ∧ Stp (L2.wipe σ vs) (wipeD δ1 vs) G1 H1 (L2.wipe σ vs) (wipeD δ2 vs) G2 H' ∧ lcD tg c F vs (items.drop i) acc δ2 = some (accF, δF),
    ⟨items.length, by simp, Nat.zero_le _, G1, δ1, [], [], RW0.new hD, Same.refl _, rfl, upd_same, gfree R1.sub hD, .nil, RW0.freeOwn hD, Stp.new hD, e2⟩, ?_⟩
  rintro i m H2 ⟨rfl, hi, G2, δ2, acc, ws, R2, sg, dl, hD2, gD2, ra, no2, st2, el⟩
  by_cases hlt : i < items.length
  · refine .inr ⟨wk.go i G2 H2 sg R2.sub hlt, fun H3 => ∃ (G2 : Hp) (δ2 : List Sl) (acc : List PyData) (ws : List V), Rel K G2 H3 (L2.wipe σ vs) (wipeD δ2 vs) ∧ Same G1 G2 ∧ δ2.length = δ1.length ∧ H3 D = some (.lst ws) ∧ G2 D = none ∧ RpAll K G2 ws acc ∧
      ¬ Own (L2.wipe σ vs) (wipeD δ2 vs) D ∧ Stp (L2.wipe σ vs) (wipeD δ1 vs) G1 H1 (L2.wipe σ vs) (wipeD δ2 vs) G2 H3 ∧ lcD tg c F vs (items.drop (i + 1)) acc δ2 = some (accF, δF), fun H3 h => ⟨items.length - (i + 1), by omega, rfl, hlt, h⟩, fun x H3 y => ?_⟩
    obtain ⟨d, hd, hy⟩ := wk.yld i G2 H2 x H3 sg R2.sub hlt y
    rw [drop_of hd] at el
    obtain ⟨δ3, e3, el⟩ := bind_some_of el
    obtain ⟨⟨b, δ4⟩, e4, el⟩ := bind_some_of el
    -- the state ahead of the turn's store: as it was, or with the new pair
    obtain ⟨G3, R3, st3, rp⟩ : ∃ G3 : Hp, Rel K G3 H3 (L2.wipe σ vs) (wipeD δ2 vs) ∧ Stp (L2.wipe σ vs) (wipeD δ2 vs) G2 H2 (L2.wipe σ vs) (wipeD δ2 vs) G3 H3 ∧ Rp K G3 x d := by
      rcases hy with ⟨rfl, rp⟩ | ⟨T, wt, ds, rfl, rfl, hT, rfl, rt⟩
      · exact ⟨G2, R2, Stp.refl, rp⟩
      · obtain ⟨R3, sg3⟩ := R2.newS (o := .tup wt) hT
        exact ⟨_, R3, (Stp.new (G := G2) hT).share hT (gfree R2.sub hT), .tup (SqT.of upd_same) (rt.same sg3)⟩
    refine ⟨G3, wipeD δ2 vs, d, δ3, R3, rp, e3, fun σ4 R4 st4 p4 => ?_⟩
    have hl4 : σ4.length = σ.length := by rw [R4.len, hg _ _ _ e3, wipeD_len, dl, ← R1.len]
    have hw : L2.wipe σ4 vs = L2.wipe σ vs := pin_wipe slen hl4 p4
    refine ⟨hw, tT_bind R4 e4 fun G5 H5 R5 st5 => ?_⟩
    have stA := ((st2.trans st3).trans st4).trans st5
    have keepD : ∀ {σx : SS} {δx : List Sl} {Gx Hx : Hp}, Stp (L2.wipe σ vs) (wipeD δ2 vs) G2 H2 σx δx Gx Hx → Hx D = some (.lst ws) ∧ ¬ Own σx δx D ∧ Gx D = none := fun {σx δx Gx Hx} st => by
      obtain ⟨k1, k2⟩ := st.keep D _ hD2 no2
      refine ⟨k1 fun z => volL z.1, k2, ?_⟩
      cases hx : Gx D with
      | none => rfl
      | some u =>
        rcases st.grow D u hx with z | z | z
        · rw [gD2] at z; cases z
        · rw [hD2] at z; cases z
        · exact absurd z no2
    have dl4 : δ4.length = δ1.length := by rw [← R5.len, hl4, ← R1.len]
    cases b with
    | false =>
      rw [if_neg Bool.false_ne_true] at el ⊢
      obtain ⟨k1, k2, k3⟩ := keepD ((st3.trans st4).trans st5)
      exact ⟨G5, δ4, acc, ws, R5.wipe hw, (((sg.trans st3.same).trans st4.same).trans st5.same), dl4, k1, k3, ra.same ((st3.same.trans st4.same).trans st5.same), fun z => k2 (own_wipe R5 (by rw [hw]; exact z)), stA.own_end fun a z => own_wipe R5 (by rw [hw]; exact z), el⟩
    | true =>
      rw [if_pos rfl] at el ⊢
      obtain ⟨⟨r6, δ6⟩, e6, el⟩ := bind_some_of el
      obtain ⟨dv, e7, el⟩ := bind_some_of el
      obtain ⟨hlen, el⟩ := of_ite0 el
      refine tD_run R5 e6 fun v G6 H6 R6 st6 rv => ?_
      obtain ⟨G7, R7, st7, sg7, rp7⟩ := RV.shared R6 st6 rv e7
      obtain ⟨k1, k2, k3⟩ := keepD (((st3.trans st4).trans st5).trans st7)
      refine ⟨ws, k1, by rw [ra.length]; exact hlen, ?_⟩
      have dl6 : δ6.length = δ1.length := by rw [← R7.len, hl4, ← R1.len]
      have sgA := ((st3.same.trans st4.same).trans st5.same).trans st7.same
      have R8 := (R7.poke (a := D) (o := .lst (ws ++ [v])) k1 k3 k2).wipe hw
      refine ⟨G7, δ6, acc ++ [dv], ws ++ [v], R8, sg.trans sgA, dl6, upd_same, k3, (ra.same sgA).append (.cons rp7 .nil), fun z => k2 (own_wipe R7 (by rw [hw]; exact z)), ?_, el⟩
      exact ((stA.trans st7).own_end fun a z => own_wipe R7 (by rw [hw]; exact z)).poke hD
  · have e0 : i = items.length := by omega
    subst e0
    rw [List.drop_length] at el
    cases el
    refine .inl ⟨wk.stop _ G2 H2 sg R2.sub (Nat.le_refl _), ?_⟩
    have stE : Stp σ δ1 G1 H1 σ (unwipe δ1 δF vs) G2 H2 := (st2.own_start fun a z => own_wipe R1 z).own_end fun a z => own_unwipe R1 hc dl.symm z
    exact q (.ref D) G2 H2 (Rel.unwipe R1 hc sg dl.symm R2) (st1.trans stE) ⟨D, ws, rfl, hD2, gD2, fun z => no2 (own_unwipe R1 hc dl.symm z), st1.dom D hD, ra⟩
end CK
/-! further rules -/
namespace CK
open PySem PySem.Spec PyProof.Rows L2
variable [Memo]

/-! ### what is walked -/
def charD (s : Str) : List PyData := s.cps.toList.map fun c => .str ⟨#[c]⟩
def seqD : PyData → Option (List PyData)
  | .list ds => some ds
  | .tuple ds => some ds
  | .str s => some (charD s)
  | _ => none
def itSeq (F : Ex) : It' := fun δ => (F δ).bind fun x => x.1.sh.bind fun d => (seqD d).bind fun ds => some (ds, x.2)
theorem PI.or {X : Cx} {tg e : Expr} {t t' : TI} (h : PI X tg e t) (h' : PI X tg e t') : PI X tg e (fun σ H R => t σ H R ∨ t' σ H R) := ⟨fun pins s σ H R I q => by
  rcases q with q | q
  · exact h.run pins s σ H R I q
  · exact h'.run pins s σ H R I q⟩
section
variable {K : PySem.W.Frag} {G : Hp}
theorem walks_list {a : Addr} {xs : List V} {ds : List PyData} (h : SqL K G a xs) (r : RpAll K G xs ds) : Walks K (Itl K a) G ds where
  go := fun i G2 H s1 s2 hi => ⟨xs, xs[i]'(by rw [r.length]; exact hi), Same.seq (s1.trans s2) h, List.getElem?_eq_getElem _⟩
  stop := fun i G2 H s1 s2 hi => ⟨xs, Same.seq (s1.trans s2) h, by rw [r.length]; exact hi⟩
  yld := fun i G2 H x H' s1 s2 hi y => by
    obtain ⟨e, y⟩ := y
    have e1 := y xs (Same.seq (s1.trans s2) h)
    obtain ⟨d, e2, rp⟩ := r.get' e1
    exact ⟨d, e2, .inl ⟨e, rp.same s1⟩⟩
theorem walks_tup {a : Addr} {xs : List V} {ds : List PyData} (h : SqT K G a xs) (r : RpAll K G xs ds) : Walks K (Itt K a) G ds where
  go := fun i G2 H s1 s2 hi => ⟨xs, xs[i]'(by rw [r.length]; exact hi), sqT_same (s1.trans s2) h, List.getElem?_eq_getElem _⟩
  stop := fun i G2 H s1 s2 hi => ⟨xs, sqT_same (s1.trans s2) h, by rw [r.length]; exact hi⟩
  yld := fun i G2 H x H' s1 s2 hi y => by
    obtain ⟨e, y⟩ := y
    have e1 := y xs (sqT_same (s1.trans s2) h)
    obtain ⟨d, e2, rp⟩ := r.get' e1
    exact ⟨d, e2, .inl ⟨e, rp.same s1⟩⟩
theorem walks_str {s : Str} : Walks K (Its s) G (charD s) where
  go := fun i G2 H s1 s2 hi => by
    unfold charD at hi
    simpa [Its] using hi
  stop := fun i G2 H s1 s2 hi => by
    unfold charD at hi
    simpa [Its] using hi
  yld := fun i G2 H x H' s1 s2 hi y => by
    obtain ⟨e, c, e1, e2⟩ := y
    subst e2
    refine ⟨.str ⟨#[c]⟩, ?_, .inl ⟨e, .str _⟩⟩
    unfold charD
    rw [List.getElem?_map, Array.getElem?_toList, e1]
    rfl
def rangeD (lo c : Int) (n : Nat) : List PyData := (List.range n).map fun k => .int (lo + (k : Nat) * c)
theorem walks_rng {lo : Int} {n : Nat} : Walks K (Itr lo n) G (rangeD lo 1 n) where
  go := fun i G2 H s1 s2 hi => by
    unfold rangeD at hi
    simpa [Itr] using hi
  stop := fun i G2 H s1 s2 hi => by
    unfold rangeD at hi
    simpa [Itr] using hi
  yld := fun i G2 H x H' s1 s2 hi y => by
    obtain ⟨e, e2⟩ := y
    subst e2
    have hi' : i < n := by simpa [rangeD] using hi
    refine ⟨.int (lo + i), ?_, .inl ⟨e, .int _⟩⟩
    unfold rangeD
    rw [List.getElem?_map, List.getElem?_range hi']
    simp
theorem walks_rngc {lo c : Int} {n : Nat} : Walks K (Itc lo c n) G (rangeD lo c n) where
  go := fun i G2 H s1 s2 hi => by
    unfold rangeD at hi
    simpa [Itc] using hi
  stop := fun i G2 H s1 s2 hi => by
    unfold rangeD at hi
    simpa [Itc] using hi
  yld := fun i G2 H x H' s1 s2 hi y => by
    obtain ⟨e, e2⟩ := y
    subst e2
    have hi' : i < n := by simpa [rangeD] using hi
    refine ⟨.int (lo + (i : Nat) * c), ?_, .inl ⟨e, .int _⟩⟩
    unfold rangeD
    rw [List.getElem?_map, List.getElem?_range hi']
    simp
/-- enumerate -/
def enumD (ds : List PyData) : List PyData := ds.zipIdx.map fun p => .tuple [.int (p.2 : Nat), p.1]
theorem walks_enum {a : Addr} {xs : List V} {ds : List PyData} (h : SqL K G a xs) (r : RpAll K G xs ds) : Walks K (Ite K a) G (enumD ds) where
  go := fun i G2 H s1 s2 hi => by
    have hi' : i < ds.length := by simpa [enumD] using hi
    exact ⟨xs, xs[i]'(by rw [r.length]; exact hi'), Same.seq (s1.trans s2) h, List.getElem?_eq_getElem _⟩
  stop := fun i G2 H s1 s2 hi => by
    have hi' : ds.length ≤ i := by simpa [enumD] using hi
    exact ⟨xs, Same.seq (s1.trans s2) h, by rw [r.length]; exact hi'⟩
  yld := fun i G2 H x H' s1 s2 hi y => by
    obtain ⟨T, z, e1, e2, e3, y⟩ := y
    have e4 := y xs (Same.seq (s1.trans s2) h)
    obtain ⟨d, e5, rp⟩ := r.get' e4
    refine ⟨.tuple [.int (i : Nat), d], ?_, .inr ⟨T, _, _, e1, rfl, e2, e3, .cons (.int _) (.cons (rp.same s1) .nil)⟩⟩
    unfold enumD
    rw [List.getElem?_map, List.getElem?_zipIdx, e5]
    simp
def zipD (ds es : List PyData) : List PyData := List.zipWith (fun d e => .tuple [d, e]) ds es
theorem zip_yld {xs ys : List V} {ds es : List PyData} {G2 : Hp} {i : Nat} {x y : V} (r : RpAll K G xs ds) (r2 : RpAll K G ys es) (s1 : Same G G2) (e1 : xs[i]? = some x) (e2 : ys[i]? = some y) :
    ∃ d e, (zipD ds es)[i]? = some (.tuple [d, e]) ∧ RpAll K G2 [x, y] [d, e] := by
  obtain ⟨d, e5, rp⟩ := r.get' e1
  obtain ⟨e, e6, rp2⟩ := r2.get' e2
  refine ⟨d, e, ?_, .cons (rp.same s1) (.cons (rp2.same s1) .nil)⟩
  unfold zipD
  rw [List.getElem?_zipWith, e5, e6]
theorem walks_zip {a b : Addr} {xs ys : List V} {ds es : List PyData} (h : SqL K G a xs) (r : RpAll K G xs ds) (h2 : SqL K G b ys) (r2 : RpAll K G ys es) : Walks K (Itz K a b) G (zipD ds es) where
  go := fun i G2 H s1 s2 hi => by
    have hi' : i < ds.length ∧ i < es.length := by simpa [zipD, Nat.lt_min] using hi
    exact ⟨xs, ys, xs[i]'(by rw [r.length]; exact hi'.1), ys[i]'(by rw [r2.length]; exact hi'.2), Same.seq (s1.trans s2) h, Same.seq (s1.trans s2) h2, List.getElem?_eq_getElem _, List.getElem?_eq_getElem _⟩
  stop := fun i G2 H s1 s2 hi => by
    have hi' : ds.length ≤ i ∨ es.length ≤ i := by
      have : min ds.length es.length ≤ i := by simpa [zipD] using hi
      omega
    exact ⟨xs, ys, Same.seq (s1.trans s2) h, Same.seq (s1.trans s2) h2, by rw [r.length, r2.length]; exact hi'⟩
  yld := fun i G2 H v H' s1 s2 hi y => by
    obtain ⟨T, x, z, e1, e2, e3, y1, y2⟩ := y
    obtain ⟨d, e, e4, rr⟩ := zip_yld r r2 s1 (y1 xs (Same.seq (s1.trans s2) h)) (y2 ys (Same.seq (s1.trans s2) h2))
    exact ⟨_, e4, .inr ⟨T, _, _, e1, rfl, e2, e3, rr⟩⟩
end
section
variable {X : Cx} {tg e : Expr} {F : Ex} {pos p : Pos}
theorem di_seq (h : DE X e F) : DI X tg e (itSeq F) := PI.by (PI.or (pi_list h) (PI.or (pi_tup h) (pi_str h))) fun σ H R hh => by
  obtain ⟨G, δ, items, δ', Rl, e, q⟩ := hh
  obtain ⟨⟨r, δ1⟩, e1, e⟩ := bind_some_of e
  obtain ⟨d, e2, e⟩ := bind_some_of e
  obtain ⟨ds, e3, e⟩ := bind_some_of e
  cases e
  unfold seqD at e3
  split at e3
  · cases e3
    refine .inl (tD_run Rl e1 fun v G' H' R' st rv => ?_)
    obtain ⟨G2, R2, st2, _, rp⟩ := RV.shared R' st rv e2
    cases rp with
    | lst hl ra => exact ⟨_, rfl, ⟨_, SqL.of (R2.sub _ _ hl)⟩, q _ G2 H' R2 st2 (walks_list (SqL.of hl) ra)⟩
  · cases e3
    refine .inr (.inl (tD_run Rl e1 fun v G' H' R' st rv => ?_))
    obtain ⟨G2, R2, st2, _, rp⟩ := RV.shared R' st rv e2
    cases rp with
    | tup hl ra => exact ⟨_, rfl, ⟨_, sqT_same R2.sub hl⟩, q _ G2 H' R2 st2 (walks_tup hl ra)⟩
  · cases e3
    refine .inr (.inr (tD_run Rl e1 fun v G' H' R' st rv => ?_))
    obtain ⟨G2, R2, st2, _, rp⟩ := RV.shared R' st rv e2
    cases rp
    exact ⟨_, rfl, q _ G2 H' R2 st2 walks_str⟩
  · cases e3
/-- an int argument -/
def intOf : Sl → Option Int
  | .im (.int j) => some j
  | _ => none
theorem int_rv {K : PySem.W.Frag} {G H Hs : Hp} {σ : SS} {δ : List Sl} {v : V} {r : Sl} {b : Int} (h : RV K G H Hs σ δ v r) (e : intOf r = some b) : v = .int b := by
  unfold intOf at e
  split at e
  · cases e
    cases h; rfl
  · cases e
abbrev P62 : Int := 4611686018427387904
def itR1 (F : Ex) : It' := fun δ => (F δ).bind fun x => (intOf x.1).bind fun j => if -P62 ≤ j ∧ j < P62 then some (rangeD 0 1 j.toNat, x.2) else none
theorem di_range1 {a : Expr} (h : DE X a F) (hg : Gl X "range") (hm : X.mg "range" = none) (hs : starEach [a] X.env = [(false, eval a X.env)] := by rfl) : DI X tg (.Call (.Name "range" p) [a] [] pos) (itR1 F) :=
  PI.by (pi_range1 hg hm (pa_cons h pa_nil (by rw [hs]; rfl)) hs) fun σ H R hh => by
  obtain ⟨G, δ, items, δ', Rl, e, q⟩ := hh
  obtain ⟨⟨r, δ1⟩, e1, e⟩ := bind_some_of e
  obtain ⟨j, e2, e⟩ := bind_some_of e
  obtain ⟨⟨h1, h2⟩, e⟩ := of_ite e
  cases e
  exact tD_run Rl e1 fun v G' H' R' st rv => ⟨j, by rw [int_rv rv e2], h1, h2, q _ G' H' R' st walks_rng⟩
def itR2 (F F2 : Ex) : It' := fun δ => (F δ).bind fun x => (intOf x.1).bind fun i => (F2 x.2).bind fun y => (intOf y.1).bind fun j => if -P62 ≤ i ∧ i < P62 ∧ -P62 ≤ j ∧ j < P62 then some (rangeD i 1 (j - i).toNat, y.2) else none
theorem di_range2 {a b : Expr} {F2 : Ex} (h : DE X a F) (h2 : DE X b F2) (hg : Gl X "range") (hm : X.mg "range" = none) (hs : starEach [a, b] X.env = [(false, eval a X.env), (false, eval b X.env)] := by rfl) (hs2 : starEach [b] X.env = [(false, eval b X.env)] := by rfl) :
    DI X tg (.Call (.Name "range" p) [a, b] [] pos) (itR2 F F2) :=
  PI.by (pi_range2 hg hm (pa_cons h (pa_cons h2 pa_nil (by rw [hs2]; rfl)) (by rw [hs, hs2])) hs hs2) fun σ H R hh => by
  obtain ⟨G, δ, items, δ', Rl, e, q⟩ := hh
  obtain ⟨⟨r, δ1⟩, e1, e⟩ := bind_some_of e
  obtain ⟨i, e2, e⟩ := bind_some_of e
  obtain ⟨⟨r3, δ3⟩, e3, e⟩ := bind_some_of e
  obtain ⟨j, e4, e⟩ := bind_some_of e
  obtain ⟨⟨h1, h2, h3, h4⟩, e⟩ := of_ite e
  cases e
  exact tD_run Rl e1 fun v G' H' R' st rv => tD_run R' e3 fun v2 G2 H2 R2 st2 rv2 => ⟨i, j, by rw [int_rv rv e2, int_rv rv2 e4], ⟨h1, h2, h3, h4⟩, q _ G2 H2 R2 (st.trans st2) walks_rng⟩

/-- range with three arguments -/
def r3D (i j c : Int) : Option (List PyData) := if c = -1 ∧ -P62 ≤ i ∧ i < P62 ∧ -P62 ≤ j ∧ j < P62 then some (rangeD i (-1) (i - j).toNat) else none
def itR3 (F F2 F3 : Ex) : It' := fun δ => (F δ).bind fun x => (intOf x.1).bind fun i => (F2 x.2).bind fun y => (intOf y.1).bind fun j => (F3 y.2).bind fun z => (intOf z.1).bind fun c => (r3D i j c).bind fun ds => some (ds, z.2)
theorem di_range3 {a b c : Expr} {F2 F3 : Ex} (h : DE X a F) (h2 : DE X b F2) (h3 : DE X c F3) (hg : Gl X "range") (hm : X.mg "range" = none) (hs : starEach [a, b, c] X.env = (false, eval a X.env) :: starEach [b, c] X.env := by rfl)
    (hs2 : starEach [b, c] X.env = (false, eval b X.env) :: starEach [c] X.env := by rfl) (hs3 : starEach [c] X.env = (false, eval c X.env) :: starEach [] X.env := by rfl) (hpl : (backTo pos (starEach [b, c] X.env)).any (·.1) = false := by rfl) :
    DI X tg (.Call (.Name "range" p) [a, b, c] [] pos) (itR3 F F2 F3) :=
  PI.by (pi_range3 hg hm (pa_cons h (pa_cons h2 (pa_cons h3 pa_nil hs3) hs2) hs) hs hpl) fun σ H R hh => by
  obtain ⟨G, δ, items, δ', Rl, e, q⟩ := hh
  obtain ⟨⟨r, δ1⟩, e1, e⟩ := bind_some_of e
  obtain ⟨i, e2, e⟩ := bind_some_of e
  obtain ⟨⟨r3, δ3⟩, e3, e⟩ := bind_some_of e
  obtain ⟨j, e4, e⟩ := bind_some_of e
  obtain ⟨⟨r5, δ5⟩, e5, e⟩ := bind_some_of e
  obtain ⟨k, e6, e⟩ := bind_some_of e
  obtain ⟨ds, e7, e⟩ := bind_some_of e
  cases e
  unfold r3D at e7
  obtain ⟨⟨rfl, h1, h2, h3, h4⟩, rfl⟩ := of_ite e7
  exact tD_run Rl e1 fun v G' H' R' st rv => tD_run R' e3 fun v2 G2 H2 R2 st2 rv2 => tD_run R2 e5 fun v3 G3 H3 R3 st3 rv3 =>
    ⟨i, j, -1, (i - j).toNat, by rw [int_rv rv e2, int_rv rv2 e4, int_rv rv3 e6], RgC.neg h1 h2 h3 h4, q _ G3 H3 R3 ((st.trans st2).trans st3) walks_rngc⟩
def itEn (F : Ex) : It' := fun δ => (F δ).bind fun x => x.1.sh.bind fun d => (match d with | .list ds => some (enumD ds) | _ => none).bind fun ds => some (ds, x.2)
def itZip (F F2 : Ex) : It' := fun δ => (F δ).bind fun x => x.1.sh.bind fun d => (F2 x.2).bind fun y => y.1.sh.bind fun e => (match d, e with | .list ds, .list es => some (zipD ds es) | _, _ => none).bind fun ds => some (ds, y.2)
variable {elts : List Expr} {kk : Nat} {tpos : Pos}
theorem di_enum (h : DE X e F) (hg : Gl X "enumerate") (hm : X.mg "enumerate" = none) (hs : starEach [e] X.env = [(false, eval e X.env)] := by rfl) : DI X (.Tuple elts kk tpos) (.Call (.Name "enumerate" p) [e] [] pos) (itEn F) :=
  PI.by (pi_enum hg hm (pa_cons h pa_nil (by rw [hs]; rfl)) hs) fun σ H R hh => by
  obtain ⟨G, δ, items, δ', Rl, e, q⟩ := hh
  obtain ⟨⟨r, δ1⟩, e1, e⟩ := bind_some_of e
  obtain ⟨d, e2, e⟩ := bind_some_of e
  obtain ⟨ds, e3, e⟩ := bind_some_of e
  cases e
  split at e3
  · cases e3
    refine tD_run Rl e1 fun v G' H' R' st rv => ?_
    obtain ⟨G2, R2, st2, _, rp⟩ := RV.shared R' st rv e2
    cases rp with
    | lst hl ra => exact ⟨_, _, rfl, SqL.of (R2.sub _ _ hl), q _ G2 H' R2 st2 (walks_enum (SqL.of hl) ra)⟩
  · cases e3
theorem di_zip {e2 : Expr} {F2 : Ex} (h : DE X e F) (h2 : DE X e2 F2) (hg : Gl X "zip") (hm : X.mg "zip" = none) (hs : starEach [e, e2] X.env = [(false, eval e X.env), (false, eval e2 X.env)] := by rfl) (hs2 : starEach [e2] X.env = [(false, eval e2 X.env)] := by rfl) :
    DI X (.Tuple elts kk tpos) (.Call (.Name "zip" p) [e, e2] [] pos) (itZip F F2) :=
  PI.by (pi_zip hg hm (pa_cons h (pa_cons h2 pa_nil (by rw [hs2]; rfl)) (by rw [hs, hs2])) (by rw [hs, hs2]) (by rw [hs2]; rfl)) fun σ H R hh => by
  obtain ⟨G, δ, items, δ', Rl, e, q⟩ := hh
  obtain ⟨⟨r, δ1⟩, e1, e⟩ := bind_some_of e
  obtain ⟨d, e2, e⟩ := bind_some_of e
  obtain ⟨⟨r3, δ3⟩, e3, e⟩ := bind_some_of e
  obtain ⟨d4, e4, e⟩ := bind_some_of e
  obtain ⟨ds, e5, e⟩ := bind_some_of e
  cases e
  split at e5
  · cases e5
    refine tD_run Rl e1 fun v G' H' R' st rv => ?_
    obtain ⟨G2, R2, st2, _, rp⟩ := RV.shared R' st rv e2
    refine tD_run R2 e3 fun v3 G3 H3 R3 st3 rv3 => ?_
    obtain ⟨G4, R4, st4, sg4, rp4⟩ := RV.shared R3 st3 rv3 e4
    have rp' := rp.same st4.same
    cases rp' with
    | lst hl ra =>
      cases rp4 with
      | lst hl4 ra4 => exact ⟨_, _, _, _, rfl, SqL.of (R4.sub _ _ hl), SqL.of (R4.sub _ _ hl4), q _ G4 H3 R4 (st2.trans st4) (walks_zip (SqL.of hl) ra (SqL.of hl4) ra4)⟩
  · cases e5

/-! ### comprehensions -/
theorem tgN_keep {i : Nat} : ∀ d δ δ', tgN i d δ = some δ' → δ'.length = δ.length := fun d δ δ' h => by
  cases h
  simp
theorem tgNil_keep : ∀ d δ δ', tgNil d δ = some δ' → δ'.length = δ.length := fun d δ δ' h => by
  unfold tgNil at h
  split at h
  · cases h; rfl
  · cases h
theorem tgCons_keep {t : Tg} {u : List PyData → List Sl → Option (List Sl)} (h1 : ∀ d δ δ', t d δ = some δ' → δ'.length = δ.length) (h2 : ∀ d δ δ', u d δ = some δ' → δ'.length = δ.length) : ∀ d δ δ', tgCons t u d δ = some δ' → δ'.length = δ.length := fun d δ δ' h => by
  unfold tgCons at h
  split at h
  · obtain ⟨δ1, e, h⟩ := bind_some_of h
    rw [h2 _ _ _ h, h1 _ _ _ e]
  · cases h
theorem tgT_keep {u : List PyData → List Sl → Option (List Sl)} (h1 : ∀ d δ δ', u d δ = some δ' → δ'.length = δ.length) : ∀ d δ δ', tgT u d δ = some δ' → δ'.length = δ.length := fun d δ δ' h => by
  unfold tgT at h
  split at h
  · exact h1 _ _ _ h
  · cases h
def tTrue : Tt := fun δ => some (true, δ)
abbrev DTs (X : Cx) (ifs : List Expr) (c : Tt) : Prop := PTs X ifs (tT X.K c)
theorem dts_nil : DTs X [] tTrue := ⟨fun pins s σ H Q I h => (pts_nil (X := X)).run pins s σ H Q I (by
  obtain ⟨G, δ, b, δ', R, e, q⟩ := h
  cases e
  exact q G H R Stp.refl)⟩
theorem dts_one {c : Expr} {C : Tt} (h : DT X c C) : DTs X [c] C := pts_one h
theorem de_lc {elt iter : Expr} {ifs : List Expr} {scope : Scope} {own : List (Str × Nat)} {n : Nat} {I : It'} {t : Tg} {C : Tt} {pos : Pos} (hc : X.calm = true) (hN : X.N.Nodup) (hi : DI X tg iter I) (ok : BlkOk X.N X.env.scope scope own)
    (hg : ∀ (s : Shared) (H : Hp) (C : Addr) (cl : List (Str × Addr)) (fp : List Addr), PG (X.blk s H scope (compEnvC scope cl C X.env) fp) tg (tG X.K (outs n (own.map (·.2))) t)) (hk : ∀ d δ δ', t d δ = some δ' → δ'.length = δ.length)
    (ht : ∀ (s : Shared) (H : Hp) (A : Addr) (cl : List (Str × Addr)) (fp : List Addr), DTs (X.blk s H scope (compEnvC scope cl A X.env) fp) ifs C)
    (he : ∀ (s : Shared) (H : Hp) (C : Addr) (cl : List (Str × Addr)) (fp : List Addr), DE (X.blk s H scope (compEnvC scope cl C X.env) fp) elt F) (hs : ∀ x, foldedSetIterable iter X.env x = pure x := by intro _; rfl) :
    DE X (.ListComp elt [⟨tg, iter, ifs, 0⟩] scope pos) (dLc' n I t C F (own.map (·.2))) :=
  PE.by (pe_lc hc hN hi ok hg ht he hs) fun σ H Q h => lc_go hk h
theorem ds_setLc {P : List Nat} {i : Nat} {y : Str} {py : Pos} {elt iter : Expr} {ifs : List Expr} {scope : Scope} {own : List (Str × Nat)} {n : Nat} {I : It'} {t : Tg} {C : Tt} {pos spos : Pos} (hc : X.calm = true) (hN : X.N.Nodup) (hy : X.N[i]? = some y) (hyl : X.env.scope.names.lookup y = some .local)
    (hsw : swapsWith (.ListComp elt [⟨tg, iter, ifs, 0⟩] scope pos) (some (.Name y py)) spos.line X.env = pure true) (hi : DI X tg iter I) (ok : BlkOk X.N X.env.scope scope own)
    (hg : ∀ (s : Shared) (H : Hp) (C : Addr) (cl : List (Str × Addr)) (fp : List Addr), PG (X.blk s H scope (compEnvC scope cl C X.env) fp) tg (tG X.K (outs n (own.map (·.2))) t)) (hk : ∀ d δ δ', t d δ = some δ' → δ'.length = δ.length)
    (ht : ∀ (s : Shared) (H : Hp) (A : Addr) (cl : List (Str × Addr)) (fp : List Addr), DTs (X.blk s H scope (compEnvC scope cl A X.env) fp) ifs C)
    (he : ∀ (s : Shared) (H : Hp) (C : Addr) (cl : List (Str × Addr)) (fp : List Addr), DE (X.blk s H scope (compEnvC scope cl C X.env) fp) elt F) (hp : P.contains i = false := by rfl) (hs : ∀ x, foldedSetIterable iter X.env x = pure x := by intro _; rfl) :
    DS X P (.Assign [.Name y py] (.ListComp elt [⟨tg, iter, ifs, 0⟩] scope pos) spos) (sSet i (dLc' n I t C F (own.map (·.2)))) :=
  PS.by (ps_setLc hc hN hy hyl hsw hi ok hg ht he hs) fun D σ H h => lc_go hk (by
    have := set_go hp h
    exact this)
end
/-- a block in a block -/
theorem lookup_relabel_in {env : Env} : ∀ {names : List (Str × NameKind)} {x : Str}, (names.lookup x = some .cell ∨ names.lookup x = some .free) →
    (names.map fun (n, k) => if (k == NameKind.free && env.scope.kind == .function && env.kindOf n == some .cell) then (n, NameKind.cell) else (n, k)).lookup x = some .cell ∨
    (names.map fun (n, k) => if (k == NameKind.free && env.scope.kind == .function && env.kindOf n == some .cell) then (n, NameKind.cell) else (n, k)).lookup x = some .free
  | [], _, h => by simp at h
  | (n, k) :: r, x, h => by
    have ih := @lookup_relabel_in env r x
    show List.lookup x ((if (k == NameKind.free && env.scope.kind == .function && env.kindOf n == some .cell) = true then (n, NameKind.cell) else (n, k)) :: _) = _ ∨ List.lookup x ((if (k == NameKind.free && env.scope.kind == .function && env.kindOf n == some .cell) = true then (n, NameKind.cell) else (n, k)) :: _) = _
    cases hx : x == n with
    | true =>
      simp only [List.lookup_cons, hx] at h
      by_cases hc : (k == NameKind.free && env.scope.kind == .function && env.kindOf n == some .cell) = true
      · rw [if_pos hc]; simp only [List.lookup_cons, hx]; first | exact .inl trivial | exact .inl rfl
      · rw [if_neg hc]; simp only [List.lookup_cons, hx]; exact h
    | false =>
      simp only [List.lookup_cons, hx] at h
      by_cases hc : (k == NameKind.free && env.scope.kind == .function && env.kindOf n == some .cell) = true
      · rw [if_pos hc]; simp only [List.lookup_cons, hx]; exact ih h
      · rw [if_neg hc]; simp only [List.lookup_cons, hx]; exact ih h
theorem blkOk_in {N : List Str} {sc0 scope : Scope} {own : List (Str × Nat)} {env : Env} (h : blkC N sc0 scope own = true) : BlkOk N (relabel sc0 env) scope own := by
  obtain ⟨h1, h2, h3, h4, h5⟩ := blkOk_by h
  exact ⟨h1, h2, h3, fun y hy e => lookup_relabel_in (h4 y hy e), h5⟩
end CK
/-! displays, items, slices, built-in functions, stores -/
namespace CK
open PySem PySem.Spec PyProof.Rows L2
variable [Memo]

/-! ### displays -/
inductive El where
  | one (F : Ex)
  | star (F : Ex)
def elE : List El → List Sl → Option (List PyData × List Sl)
  | [], δ => some ([], δ)
  | .one F :: r, δ => (F δ).bind fun x => x.1.sh.bind fun d => (elE r x.2).bind fun y => some (d :: y.1, y.2)
  | .star F :: r, δ => (F δ).bind fun x => x.1.sh.bind fun d => (match d with | .list ds => some ds | .tuple ds => some ds | _ => none).bind fun ds => (elE r x.2).bind fun y => some (ds ++ y.1, y.2)
def tEl (K : PySem.W.Frag) (as : List El) : TA := fun σ H Q => ∃ (G : Hp) (δ : List Sl) (ds : List PyData) (δ' : List Sl), Rel K G H σ δ ∧ elE as δ = some (ds, δ') ∧
  ∀ (vs : List V) (G' H' : Hp), Rel K G' H' σ δ' → Stp σ δ G H σ δ' G' H' → RpAll K G' vs ds → Q vs H'
abbrev DL (X : Cx) (es : List Expr) (as : List El) : Prop := PA X es (tEl X.K as)
section
variable {X : Cx} {e : Expr} {es : List Expr} {F : Ex} {as : List El} {pos p : Pos}
theorem dl_nil : DL X [] [] := PA.by pa_nil fun σ H Q h => by
  obtain ⟨G, δ, ps, δ', R, e, q⟩ := h
  cases e
  exact q [] G H R Stp.refl .nil
theorem dl_one (ha : DE X e F) (hr : DL X es as) (hs : starEach (e :: es) X.env = (false, eval e X.env) :: starEach es X.env := by rfl) : DL X (e :: es) (.one F :: as) := PA.by (pa_cons ha hr hs) fun σ H Q h => by
  obtain ⟨G, δ, ps, δ', R, e, q⟩ := h
  obtain ⟨⟨r, δ1⟩, e1, e⟩ := bind_some_of e
  obtain ⟨d, e2, e⟩ := bind_some_of e
  obtain ⟨⟨ds, δ2⟩, e3, e⟩ := bind_some_of e
  cases e
  refine tD_run R e1 fun v G1 H1 R1 st1 rv => ?_
  obtain ⟨G2, R2, st2, _, av⟩ := RV.shared R1 st1 rv e2
  exact ⟨G2, δ1, ds, _, R2, e3, fun vs G3 H3 R3 st3 aw => q (v :: vs) G3 H3 R3 (st2.trans st3) (.cons (av.same st3.same) aw)⟩
theorem dl_star (ha : DE X e F) (hr : DL X es as) (hs : starEach (.Starred e p :: es) X.env = (true, eval e X.env) :: starEach es X.env := by rfl) : DL X (.Starred e p :: es) (.star F :: as) := PA.by (StX.pa_star ha hr hs) fun σ H Q h => by
  obtain ⟨G, δ, ps, δ', R, e, q⟩ := h
  obtain ⟨⟨r, δ1⟩, e1, e⟩ := bind_some_of e
  obtain ⟨d, e2, e⟩ := bind_some_of e
  obtain ⟨ds0, e4, e⟩ := bind_some_of e
  obtain ⟨⟨ds, δ2⟩, e3, e⟩ := bind_some_of e
  cases e
  refine tD_run R e1 fun v G1 H1 R1 st1 rv => ?_
  obtain ⟨G2, R2, st2, _, av⟩ := RV.shared R1 st1 rv e2
  split at e4
  · cases e4
    cases av with
    | lst hl ra => exact ⟨_, _, rfl, .inr (SqL.of (R2.sub _ _ hl)), G2, δ1, ds, _, R2, e3, fun vs G3 H3 R3 st3 aw => q _ G3 H3 R3 (st2.trans st3) ((ra.same st3.same).append aw)⟩
  · cases e4
    cases av with
    | tup hl ra => exact ⟨_, _, rfl, .inl (sqT_same R2.sub hl), G2, δ1, ds, _, R2, e3, fun vs G3 H3 R3 st3 aw => q _ G3 H3 R3 (st2.trans st3) ((ra.same st3.same).append aw)⟩
  · cases e4
def dLst (as : List El) : Ex := fun δ => (elE as δ).bind fun x => if x.1.length ≤ LINE then some (.bx .l x.1, x.2) else none
def dTup (as : List El) : Ex := fun δ => (elE as δ).bind fun x => if x.1.length ≤ LINE then some (.im (.tuple x.1), x.2) else none
theorem de_lst (h : DL X es as) : DE X (.List es pos) (dLst as) := PE.by (pe_lst h) fun σ H Q hh => by
  obtain ⟨G, δ, r, δ', R, e, q⟩ := hh
  obtain ⟨⟨ds, δ1⟩, e1, e⟩ := bind_some_of e
  obtain ⟨hc, e⟩ := of_ite e
  cases e
  refine ⟨G, δ, ds, _, R, e1, fun vs G1 H1 R1 st1 ra => ⟨by rw [ra.length]; exact hc, fun p hp => ?_⟩⟩
  exact q (.ref p) G1 _ (R1.new hp) (st1.trans (Stp.new hp)) ⟨p, vs, rfl, upd_same, gfree R1.sub hp, R1.freeOwn hp, st1.dom p hp, ra⟩
theorem de_tup {k : Nat} (h : DL X es as) : DE X (.Tuple es k pos) (dTup as) := PE.by (pe_tup h) fun σ H Q hh => by
  obtain ⟨G, δ, r, δ', R, e, q⟩ := hh
  obtain ⟨⟨ds, δ1⟩, e1, e⟩ := bind_some_of e
  obtain ⟨hc, e⟩ := of_ite e
  cases e
  refine ⟨G, δ, ds, _, R, e1, fun vs G1 H1 R1 st1 ra => ⟨by rw [ra.length]; exact hc, fun p hp => ?_⟩⟩
  obtain ⟨R2, sg⟩ := R1.newS (o := .tup vs) hp
  exact q (.ref p) _ _ R2 ((st1.trans (Stp.new hp)).share (st1.dom p hp) (gfree R1.sub hp)) (.tup (SqT.of upd_same) (ra.same sg))
/-- values in a row, each as it lies -/
def esE : List Ex → List Sl → Option (List Sl × List Sl)
  | [], δ => some ([], δ)
  | F :: r, δ => (F δ).bind fun x => (esE r x.2).bind fun y => some (x.1 :: y.1, y.2)
def RVs (K : PySem.W.Frag) (G H : Hp) (σ : SS) (δ : List Sl) : Hp → List V → List Sl → Prop
  | _, [], [] => True
  | Hs, v :: vs, r :: rs => RV K G H Hs σ δ v r ∧ ∃ H1, (∀ a, H1 a = none → Hs a = none) ∧ (∀ p t ds, r = .bx t ds → v = .ref p → H1 p ≠ none) ∧ RVs K G H σ δ H1 vs rs
  | _, _, _ => False
def tEs (K : PySem.W.Frag) (as : List Ex) : TA := fun σ H Q => ∃ (G : Hp) (δ : List Sl) (rs : List Sl) (δ' : List Sl), Rel K G H σ δ ∧ esE as δ = some (rs, δ') ∧
  ∀ (vs : List V) (G' H' : Hp), Rel K G' H' σ δ' → Stp σ δ G H σ δ' G' H' → RVs K G' H' σ δ' H vs rs → Q vs H'
abbrev DEs (X : Cx) (es : List Expr) (as : List Ex) : Prop := PA X es (tEs X.K as)
theorem RV.step {K : PySem.W.Frag} {G H Hs G' H' : Hp} {σ : SS} {δ δ' : List Sl} {v : V} {r : Sl} (h : RV K G H Hs σ δ v r) (st : Stp σ δ G H σ δ' G' H') : RV K G' H' Hs σ δ' v r := by
  cases r with
  | no => exact h
  | im d => exact Rp.same st.same h
  | bx t ds =>
    obtain ⟨p, ws, h1, h2, h3, h4, h5, h6⟩ := h
    obtain ⟨o1, h2, nv, kb⟩ := h2.at
    obtain ⟨k1, k2⟩ := st.keep p _ h2 h4
    refine ⟨p, ws, h1, kb _ (k1 fun z => nv z.1), ?_, k2, h5, h6.same st.same⟩
    cases e : G' p with
    | none => rfl
    | some o =>
      rcases st.grow p o e with z | z | z
      · rw [h3] at z; cases z
      · rw [h2] at z; cases z
      · exact absurd z h4
  | fz ds =>
    obtain ⟨p, ws, h1, h2, h3⟩ := h
    exact ⟨p, ws, h1, Same.seq st.same h2, h3.same st.same⟩
  | raw u => exact h
  | mo x => exact h
theorem des_nil : DEs X [] [] := PA.by pa_nil fun σ H Q h => by
  obtain ⟨G, δ, ps, δ', R, e, q⟩ := h
  cases e
  exact q [] G H R Stp.refl trivial
theorem des_cons {fs : List Ex} (ha : DE X e F) (hr : DEs X es fs) (hs : starEach (e :: es) X.env = (false, eval e X.env) :: starEach es X.env := by rfl) : DEs X (e :: es) (F :: fs) := PA.by (pa_cons ha hr hs) fun σ H Q h => by
  obtain ⟨G, δ, ps, δ', R, e, q⟩ := h
  obtain ⟨⟨r, δ1⟩, e1, e⟩ := bind_some_of e
  obtain ⟨⟨rs, δ2⟩, e3, e⟩ := bind_some_of e
  cases e
  refine tD_run R e1 fun v G1 H1 R1 st1 rv => ?_
  refine ⟨G1, δ1, rs, _, R1, e3, fun vs G3 H3 R3 st3 aw => q (v :: vs) G3 H3 R3 (st1.trans st3) ⟨rv.step st3, H1, st1.dom, fun p t ds e2 e4 z => ?_, aw⟩⟩
  subst e2
  obtain ⟨p', ws, k1, k2, _⟩ := rv
  rw [e4] at k1
  cases k1
  exact k2.not z
/-- a, b = x, y with plain names -/
def sPar (i j : Nat) (F1 F2 : Ex) : Sm := fun δ => (F1 δ).bind fun x => (F2 x.2).bind fun y => some (.nx, (y.2.set i x.1).set j y.1)
def sPar3 (i j l : Nat) (F1 F2 F3 : Ex) : Sm := fun δ => (F1 δ).bind fun x => (F2 x.2).bind fun y => (F3 y.2).bind fun z => some (.nx, ((z.2.set i x.1).set j y.1).set l z.1)
theorem ds_par {P : List Nat} {i j : Nat} {x y : Str} {a b : Expr} {F1 F2 : Ex} {px py pt pos : Pos} {kt k2 pt2} (hc : X.calm = true) (hN : X.N.Nodup) (hi : X.N[i]? = some x) (hj : X.N[j]? = some y) (hij : i ≠ j)
    (hx : X.env.scope.names.lookup x = some .local) (hy : X.env.scope.names.lookup y = some .local) (ha : DEs X [a, b] [F1, F2])
    (hw : swappedStores [.Tuple [.Name x px, .Name y py] kt pt] (.Tuple [a, b] k2 pt2) X.env = pure (some [x, y])) (hpi : P.contains i = false := by rfl) (hpj : P.contains j = false := by rfl)
    (hs : swapsWithSole [.Tuple [.Name x px, .Name y py] kt pt] (.Tuple [a, b] k2 pt2) pos.line X.env = pure false := by rfl) :
    DS X P (.Assign [.Tuple [.Name x px, .Name y py] kt pt] (.Tuple [a, b] k2 pt2) pos) (sPar i j F1 F2) := PS.by (L2.ps_par hc hN hi hj hij hx hy ha hw hs) fun D σ H hh => by
  obtain ⟨G, δ, fl, δ', R, e, q⟩ := hh
  obtain ⟨⟨r1, δ1⟩, e1, e⟩ := bind_some_of e
  obtain ⟨⟨r2, δ2⟩, e2, e⟩ := bind_some_of e
  cases e
  refine ⟨G, δ, [r1, r2], δ2, R, by simp only [esE, e1, e2, Option.bind_some], fun vs G1 H1 R1 st1 ra => ?_⟩
  match vs, ra with
  | [v, w], ⟨rv1, Hm, m1, m2, rv2, _, _, _, _⟩ =>
    have A := R1.set (i := i) rv1.slot.1 fun p t ds e1 e2 => (rv1.slot.2 p t ds e1 e2).1
    have B := A.set (i := j) rv2.slot.1 fun p t ds e1 e2 z => by
      rcases own_set R1.len z with z | ⟨z, u', es, e3⟩
      · exact (rv2.slot.2 p t ds e1 e2).1 z
      · exact m2 p u' es e3 z (rv2.slot.2 p t ds e1 e2).2
    refine ⟨v, w, rfl, q _ G1 H1 B (Stp.setR A (Stp.setR R1 st1 fun p t ds e1 e2 => (rv1.slot.2 p t ds e1 e2).2) fun p t ds e1 e2 => m1 _ (rv2.slot.2 p t ds e1 e2).2) ((Pin.set hpi).trans (Pin.set hpj))⟩
theorem ds_par3 {P : List Nat} {i j l : Nat} {x y z : Str} {a b c : Expr} {F1 F2 F3 : Ex} {px py pz pt pos : Pos} {kt k2 pt2} (hc : X.calm = true) (hN : X.N.Nodup) (hi : X.N[i]? = some x) (hj : X.N[j]? = some y) (hl : X.N[l]? = some z) (hij : i ≠ j) (hil : i ≠ l) (hjl : j ≠ l)
    (hx : X.env.scope.names.lookup x = some .local) (hy : X.env.scope.names.lookup y = some .local) (hz : X.env.scope.names.lookup z = some .local) (ha : DEs X [a, b, c] [F1, F2, F3])
    (hw : swappedStores [.Tuple [.Name x px, .Name y py, .Name z pz] kt pt] (.Tuple [a, b, c] k2 pt2) X.env = pure (some [x, y, z])) (hpi : P.contains i = false := by rfl) (hpj : P.contains j = false := by rfl) (hpl : P.contains l = false := by rfl)
    (hs : swapsWithSole [.Tuple [.Name x px, .Name y py, .Name z pz] kt pt] (.Tuple [a, b, c] k2 pt2) pos.line X.env = pure false := by rfl) :
    DS X P (.Assign [.Tuple [.Name x px, .Name y py, .Name z pz] kt pt] (.Tuple [a, b, c] k2 pt2) pos) (sPar3 i j l F1 F2 F3) := PS.by (L2.ps_par3 hc hN hi hj hl hij hil hjl hx hy hz ha hw hs) fun D σ H hh => by
  obtain ⟨G, δ, fl, δ', R, e, q⟩ := hh
  obtain ⟨⟨r1, δ1⟩, e1, e⟩ := bind_some_of e
  obtain ⟨⟨r2, δ2⟩, e2, e⟩ := bind_some_of e
  obtain ⟨⟨r3, δ3⟩, e3, e⟩ := bind_some_of e
  cases e
  refine ⟨G, δ, [r1, r2, r3], δ3, R, by simp only [esE, e1, e2, e3, Option.bind_some], fun vs G1 H1 R1 st1 ra => ?_⟩
  match vs, ra with
  | [v, w, u], ⟨rv1, Hm, m1, m2, rv2, Hn, n1, n2, rv3, _, _, _, _⟩ =>
    have A := R1.set (i := i) rv1.slot.1 fun p t ds e1 e2 => (rv1.slot.2 p t ds e1 e2).1
    have B := A.set (i := j) rv2.slot.1 fun p t ds e1 e2 z => by
      rcases own_set R1.len z with z | ⟨z, u', es, e3⟩
      · exact (rv2.slot.2 p t ds e1 e2).1 z
      · exact m2 p u' es e3 z (rv2.slot.2 p t ds e1 e2).2
    have C := B.set (i := l) rv3.slot.1 fun p t ds e1 e2 z => by
      rcases own_set A.len z with z | ⟨z, u', es, e3⟩
      · rcases own_set R1.len z with z | ⟨z, u', es, e3⟩
        · exact (rv3.slot.2 p t ds e1 e2).1 z
        · exact m2 p u' es e3 z (n1 _ (rv3.slot.2 p t ds e1 e2).2)
      · exact n2 p u' es e3 z (rv3.slot.2 p t ds e1 e2).2
    refine ⟨v, w, u, rfl, q _ G1 H1 C (Stp.setR B (Stp.setR A (Stp.setR R1 st1 fun p t ds e1 e2 => (rv1.slot.2 p t ds e1 e2).2) fun p t ds e1 e2 => m1 _ (rv2.slot.2 p t ds e1 e2).2) fun p t ds e1 e2 => m1 _ (n1 _ (rv3.slot.2 p t ds e1 e2).2)) (((Pin.set hpi).trans (Pin.set hpj)).trans (Pin.set hpl))⟩
end

/-! ### items -/
def ixD : PyData → PyData → Option Sl
  | .list ds, .int i => (atI ds i).bind fun d => some (.im d)
  | .tuple ds, .int i => (atI ds i).bind fun d => some (.im d)
  | .str s, .int i => if s.length ≤ LINE then (atI s.cps.toList i).bind fun c => some (.im (.str ⟨#[c]⟩)) else none
  | _, _ => none
section
variable {K : PySem.W.Frag} {G : Hp}
theorem atI_rp {ws : List V} {ds : List PyData} {i : Int} {d : PyData} (r : RpAll K G ws ds) (h : atI ds i = some d) : ∃ v, atI ws i = some v ∧ Rp K G v d := by
  unfold atI at h ⊢
  rw [← r.length] at h
  cases e : ixN ws.length i with
  | none => rw [e] at h; cases h
  | some j =>
    rw [e] at h
    obtain ⟨v, e1, rp⟩ := r.get (show ds[j]? = some d from h)
    exact ⟨v, e1, rp⟩
end
section
variable {X : Cx} {a b e : Expr} {oa ob : Od} {F : Ex} {pos p : Pos}
theorem de_ix (ha : DO X a oa) (hb : DO X b ob) (hs : PlainIx b := by exact fun _ _ => rfl) : DE X (.Subscript a b pos) (dOp2 ixD oa ob) :=
  PE.by (pe_ix ix_seq ha.pe hb.pe hs) fun σ H Q h => od2 h fun G H1 δ v w d e z R r1 r2 e3 q => by
    unfold ixD at e3
    split at e3
    · obtain ⟨d, e4, e5⟩ := bind_some_of e3
      cases e5
      obtain ⟨p, ws, rfl, h1, ra⟩ := r1.lst R.sub
      obtain ⟨u, e6, rp⟩ := atI_rp ra e4
      exact .inl ⟨p, ws, _, u, rfl, r2.int, SqL.of h1, e6, Want.im q R rp⟩
    · obtain ⟨d, e4, e5⟩ := bind_some_of e3
      cases e5
      obtain ⟨p, ws, rfl, h1, ra⟩ := r1.tup R.sub
      obtain ⟨u, e6, rp⟩ := atI_rp ra e4
      exact .inr (.inl ⟨p, ws, _, u, rfl, r2.int, h1, e6, Want.im q R rp⟩)
    · obtain ⟨hc, e3⟩ := of_ite0 e3
      obtain ⟨c, e4, e5⟩ := bind_some_of e3
      cases e5
      exact .inr (.inr ⟨_, _, c, r1.str, r2.int, hc, e4, Want.str q R⟩)
    · cases e3
/-- an item of a list that is only read -/
def dIxF (i : Nat) (F : Ex) : Ex := fun δ => (match δ[i]? with | some (.fz ds) => some ds | _ => none).bind fun ds => (F δ).bind fun x => (intOf x.1).bind fun j => (match x.2[i]? with | some (.fz _) => some () | _ => none).bind fun _ => (atI ds j).bind fun d => some (.im d, x.2)
theorem de_ixF (i : Nat) {x : Str} {px : Pos} (hb : DE X b F) (hN : X.N[i]? = some x := by rfl) (hv : Vis X.env.scope x := by first | exact Or.inl rfl | exact Or.inr (Or.inl rfl) | exact Or.inr (Or.inr rfl)) (hd : (x == ("__debug__" : Str)) = false := by decide)
    (hcd : (x == ("__classdict__" : Str)) = false := by decide) (hs : PlainIx b := by exact fun _ _ => rfl) : DE X (.Subscript (.Name x px) b pos) (dIxF i F) :=
  PE.by (pe_ix ix_list (pe_var hN hv hd hcd) hb hs) fun σ H Q h => by
    obtain ⟨G, δ, r, δ', R, e, q⟩ := h
    obtain ⟨ds, e0, e⟩ := bind_some_of e
    obtain ⟨⟨r1, δ1⟩, e1, e⟩ := bind_some_of e
    obtain ⟨j, e2, e⟩ := bind_some_of e
    obtain ⟨u, e3, e⟩ := bind_some_of e
    obtain ⟨d, e4, e⟩ := bind_some_of e
    cases e
    split at e0
    · rename_i ds' hd
      cases e0
      obtain ⟨p, ws, h1, h2, ra⟩ := R.fz hd
      refine ⟨_, h1, tD_run R e1 fun v G' H' R' st rv => ?_⟩
      obtain ⟨w, e6, rp⟩ := atI_rp ra e4
      exact ⟨p, ws, j, w, rfl, int_rv rv e2, Same.seq (st.same.trans R'.sub) h2, e6, q w G' H' R' st (rp.same st.same)⟩
    · cases e0

/-! ### slices -/
abbrev sI := HT.sIx
def cutD (ds : List PyData) (lo hi : Option Int) : List PyData := (ds.drop (HT.sIx ds.length 0 lo)).take (HT.sIx ds.length ds.length hi - HT.sIx ds.length 0 lo)
theorem cut_rp {K : PySem.W.Frag} {G : Hp} {ws : List V} {ds : List PyData} {lo hi : Option Int} (r : RpAll K G ws ds) : RpAll K G (cutV ws lo hi) (cutD ds lo hi) := by
  unfold cutV cutD
  rw [r.length]
  exact (r.drop _).take _
def slD (lo hi : Option Int) : PyData → Option Sl
  | .list ds => some (.bx .l (cutD ds lo hi))
  | .tuple ds => some (.im (.tuple (cutD ds lo hi)))
  | .str s => if s.length ≤ LINE then some (.im (.str (cutS s lo hi))) else none
  | _ => none
/-- an optional bound -/
def prt : Option Ex → List Sl → Option (Option Int × List Sl)
  | none, δ => some (none, δ)
  | some F, δ => (F δ).bind fun x => (intOf x.1).bind fun j => some (some j, x.2)
def dSl (a : Od) (lo hi : Option Ex) : Ex := fun δ => (a.fst δ).bind fun x => (prt lo x.2).bind fun l => (prt hi l.2).bind fun h => (a.snd x.1 h.2).bind fun d => (slD l.1 h.1 d).bind fun r => some (r, h.2)
def tPrt (K : PySem.W.Frag) : Option Ex → TO
  | none => tNoPart
  | some F => tPart (tD K F)
structure DP (X : Cx) (e : Option Expr) (F : Option Ex) : Prop where
  po : PO X e (tPrt X.K F)
theorem dp_none : DP X none none := ⟨po_none⟩
theorem dp_some (h : DE X e F) : DP X (some e) (some F) := ⟨po_some h⟩
theorem prt_run {K : PySem.W.Frag} {G H : Hp} {σ : SS} {δ δ' : List Sl} {F : Option Ex} {o : Option Int} {Q : Option Int → Hp → Prop} (R : Rel K G H σ δ) (e : prt F δ = some (o, δ')) (q : ∀ G' H', Rel K G' H' σ δ' → Stp σ δ G H σ δ' G' H' → Q o H') : tPrt K F σ H Q := by
  cases F with
  | none => cases e; exact q G H R Stp.refl
  | some F =>
    obtain ⟨⟨r, δ1⟩, e1, e⟩ := bind_some_of e
    obtain ⟨j, e2, e⟩ := bind_some_of e
    cases e
    exact tD_run R e1 fun v G' H' R' st rv => ⟨j, int_rv rv e2, q G' H' R' st⟩
theorem de_sl {lo hi : Option Expr} {fl fh : Option Ex} {p2 : Pos} (ha : DO X a oa) (hl : DP X lo fl) (hh : DP X hi fh) : DE X (.Subscript a (.Slice lo hi none p2) pos) (dSl oa fl fh) :=
  PE.by (pe_slice (SlR.or sl_list (SlR.or sl_tupA sl_str)) ha.pe hl.po hh.po) fun σ H Q h => by
    obtain ⟨G, δ, r, δ', R, e, q⟩ := h
    obtain ⟨⟨p, δ1⟩, e1, e⟩ := bind_some_of e
    obtain ⟨⟨l, δ2⟩, e2, e⟩ := bind_some_of e
    obtain ⟨⟨u, δ3⟩, e3, e⟩ := bind_some_of e
    obtain ⟨d, e4, e⟩ := bind_some_of e
    obtain ⟨z, e5, e⟩ := bind_some_of e
    cases e
    refine tO_run R e1 fun v G1 H1 R1 st1 ov => ?_
    refine prt_run R1 e2 fun G2 H2 R2 st2 => ?_
    refine prt_run R2 e3 fun G3 H3 R3 st3 => ?_
    have r1 := (ov.same (st2.trans st3).same).rt R3 e4
    have stA := st1.trans (st2.trans st3)
    unfold slD at e5
    split at e5
    · cases e5
      obtain ⟨p, ws, rfl, h1, ra⟩ := r1.lst R3.sub
      refine .inl ⟨p, ws, rfl, SqL.of h1, fun t ht => ?_⟩
      exact q _ G3 _ (R3.new ht) (stA.trans (Stp.new ht)) ⟨t, _, rfl, upd_same, gfree R3.sub ht, R3.freeOwn ht, stA.dom t ht, cut_rp ra⟩
    · rename_i _ ds2
      cases e5
      obtain ⟨p, ws, rfl, h1, ra⟩ := r1.tup R3.sub
      refine .inr (.inl ⟨p, ws, rfl, h1, fun hw => ?_, fun hw t ht => ?_⟩)
      · have e9 : cutD ds2 l u = ds2 := by
          unfold cutD
          rw [← ra.length, hw.1, hw.2, List.drop_zero, Nat.sub_zero, ra.length, List.take_length]
        rcases r1 with r1 | ⟨_, _, _, _, ee, _⟩
        · exact q _ G3 H3 R3 stA (show Rp X.K G3 _ (.tuple (cutD ds2 l u)) by rw [e9]; exact r1)
        · cases ee
      · obtain ⟨R4, sg⟩ := R3.newS (o := .tup (cutV ws l u)) ht
        exact q (.ref t) _ _ R4 ((stA.trans (Stp.new ht)).share (stA.dom t ht) (gfree R3.sub ht)) (.tup (SqT.of upd_same) ((cut_rp ra).same sg))
    · obtain ⟨hc, e5⟩ := of_ite e5
      cases e5
      exact .inr (.inr ⟨_, r1.str, hc, q _ G3 H3 R3 stA (.str _)⟩)
    · cases e5
/-- xs[::-1] -/
def revD : PyData → Option Sl
  | .list ds => some (.bx .l ds.reverse)
  | _ => none
theorem de_rev {k : Nat} {p1 p2 p3 : Pos} (ha : DO X a oa) : DE X (.Subscript a (.Slice none none (some (.UnaryOp .USub (.Constant (.int 1) k p1) p2)) p3) pos) (dOp1 revD oa) :=
  PE.by (pe_revL ha.pe) fun σ H Q h => od1 h fun G H1 δ v d z R r1 e3 q => by
    unfold revD at e3
    split at e3
    · cases e3
      obtain ⟨p, ws, rfl, h1, ra⟩ := r1.lst R.sub
      exact ⟨p, ws, rfl, SqL.of h1, Want.ow q R ra.reverse⟩
    · cases e3
end
end CK
/-! defs that run where nothing is being written out (no guard stands): as the hand layer's, with that told -/
namespace CK
open PySem PySem.Spec PyProof.Rows L2
variable [Memo]

/-- a def keeps its promise wherever no guard stands -/
structure FnG (P : Program) (w : World) (K : PySem.W.Frag) (mg : Str → Option Value) (base : Heap) (CT : CXT) (k : Nat) (f : Addr) (fd : FuncData) (ps : List Str) (sp : Sp) : Prop where
  arity : ∀ vs H Q E, sp vs H Q E → vs.length = ps.length
  go : ∀ (A : Around) (outer : List Env) (s : Shared) (H : Hp) (args : Args) (us : List Value) (vs : List V) (Q : VK) (E : XK),
    A.guards = some [] → Room k A → Env0 P w K mg base A outer s H → BindsTo s fd args (ps.zip us) → Vals vs us → sp vs H Q E →
      codeAny (model P w) A (.call (.ref f) args) (CR CT outer P w H s Q E) s
theorem FnG.mono {P : Program} {w : World} {K : PySem.W.Frag} {mg : Str → Option Value} {base : Heap} {CT : CXT} {j k : Nat} {f : Addr} {fd : FuncData} {ps : List Str} {sp : Sp}
    (F : FnG P w K mg base CT j f fd ps sp) (h : j ≤ k) : FnG P w K mg base CT k f fd ps sp :=
  ⟨F.arity, fun A outer s H args us vs Q E hg hr => F.go A outer s H args us vs Q E hg (hr.mono h)⟩

section
variable {X : Cx} {CT : CXT} {k : Nat} {f : Addr} {fd : FuncData} {ps : List Str} {sp : Sp} {E : XK} {x : Str} {p pos : Pos} {e : Expr} {es : List Expr} {t : TA}
/-- how a callee's end comes back to the caller -/
theorem back_from {pins : List (Addr × Obj)} {σ : SS} {H : Hp} {s s' : Shared} {Q : VK} {r : Result} (hx : Passes CT X E) (I : Inv X pins σ H s) (hq : CR CT X.stack X.prog X.w H s Q E r s') :
    match r with
    | .ok (.ret u) => EP X pins σ Q u s'
    | .ok _ => False
    | .error e => X.xe e s' := by
  cases r with
  | error er => exact hx pins σ H s er s' I hq
  | ok fl =>
    cases fl with
    | ret u => exact I.after hq
    | next => exact hq.elim
    | brk => exact hq.elim
    | cont => exact hq.elim
theorem runG {pins : List (Addr × Obj)} {σ : SS} {H : Hp} {s : Shared} {Q : VK} {args : Args} {us : List Value} {vs : List V} {kw : List (Str × Value)} {ws : List Value}
    (hgd : X.A.guards = some []) (F : FnG X.prog X.w X.K X.mg X.base CT k f fd ps sp) (hr : Room k X.A) (hx : Passes CT X E) (I : Inv X pins σ H s)
    (hb : BindsTo s fd ⟨ws, kw⟩ (ps.zip us)) (r : Vals vs us) (h : sp vs H Q E) : wpAny (model X.prog X.w) X.A (call (.ref f) ws kw) (EP X pins σ Q) X.xe s := by
  refine wpAny_call (codeAny_mono (F.go X.A X.stack s H ⟨ws, kw⟩ us vs Q E hgd hr I.env0 hb r h) fun r s' hq => ?_)
  have z := back_from hx I hq
  cases r with
  | error er => exact z
  | ok fl =>
    cases fl with
    | ret u => exact z
    | next => exact z.elim
    | brk => exact z.elim
    | cont => exact z.elim
/-- f(e, ..): every parameter given by place -/
theorem pe_callG (hgd : X.A.guards = some []) (F : FnG X.prog X.w X.K X.mg X.base CT k f fd ps sp) (hr : Room k X.A) (hg : Gl X x) (hm : X.mg x = some (.ref f)) (hk : PySem.W.keepIn X.K (.ref f) = true)
    (hb : Binds X.K fd ps []) (hx : Passes CT X E) (ha : PA X (e :: es) t) (hdb : (x == ("__debug__" : Str)) = false := by decide)
    (he : starEach (e :: es) X.env = (false, eval e X.env) :: starEach es X.env := by rfl) (hpl : (backTo pos (starEach es X.env)).any (·.1) = false := by rfl) :
    PE X (.Call (.Name x p) (e :: es) [] pos) (fun σ H Q => t σ H fun vs H1 => sp vs H1 Q E) := ⟨fun pins s σ H Q I h => by
  refine wpAny_Call_Name_kw (ld_glob I hg hm (PySem.W.callWith_K (h₀ := X.base) I.ok.mod.kin hk ?_ he hpl) hdb)
  refine thn (ha.run pos pins s σ H _ I h) fun us s1 ⟨vs, H1, I1, r, q⟩ => ⟨I1.kIn, ?_⟩
  have hl : (us ++ []).length = ps.length := by
    rw [List.append_nil, ← r.length]
    exact F.arity _ _ _ _ q
  have hbs := hb s1 us I1.kIn hl
  rw [List.append_nil] at hbs
  exact runG (args := ⟨us, []⟩) hgd F hr hx I1 hbs r q⟩
/-- how keywords come to their places -/
structure KwB (K : PySem.W.Frag) (fd : FuncData) (ps ks : List Str) (n : Nat) (ix : List Nat) : Prop where
  to : ∀ (s : Shared) (us ws : List Value), K.In s.heap → us.length = n → ws.length = ks.length → BindsTo s fd ⟨us, ks.zip ws⟩ (ps.zip (ix.filterMap fun i => (us ++ ws)[i]?))
  len : ix.length = ps.length
  lt : ∀ i ∈ ix, i < n + ks.length
theorem pick_vals {vs : List V} {us : List Value} (r : Vals vs us) : ∀ ix : List Nat, (∀ i ∈ ix, i < us.length) → Vals (ix.filterMap fun i => vs[i]?) (ix.filterMap fun i => us[i]?)
  | [], _ => .nil
  | i :: ix, h => by
    have hi := h i List.mem_cons_self
    have hv : i < vs.length := by rw [r.length]; exact hi
    obtain ⟨u, e1, e2⟩ := r.get (List.getElem?_eq_getElem hv)
    rw [List.filterMap_cons, List.filterMap_cons, e1, List.getElem?_eq_getElem hv]
    exact .cons e2 (pick_vals r ix fun j hj => h j (List.mem_cons_of_mem _ hj))
theorem pick_len {α : Type} {l : List α} : ∀ ix : List Nat, (∀ i ∈ ix, i < l.length) → (ix.filterMap fun i => l[i]?).length = ix.length
  | [], _ => rfl
  | i :: ix, h => by
    have hi := h i List.mem_cons_self
    rw [List.filterMap_cons, List.getElem?_eq_getElem hi]
    simp only [List.length_cons]
    rw [pick_len ix fun j hj => h j (List.mem_cons_of_mem _ hj)]
/-- f(k = e, ..) by keywords alone -/
theorem pe_callGK0 {kws : List Keyword} {ks : List Str} {ix : List Nat} {tk : TA} (hgd : X.A.guards = some []) (F : FnG X.prog X.w X.K X.mg X.base CT k f fd ps sp) (hr : Room k X.A) (hg : Gl X x) (hm : X.mg x = some (.ref f))
    (hk : PySem.W.keepIn X.K (.ref f) = true) (hb : KwB X.K fd ps ks 0 ix) (hx : Passes CT X E) (hkw : PK X kws tk) (hall : (backToKw pos (keywordEach kws X.env)).all (·.1.isSome) = true := by rfl)
    (hks : (backToKw pos (keywordEach kws X.env)).filterMap (·.1) = ks := by rfl) (hdb : (x == ("__debug__" : Str)) = false := by decide)
    (hpl : ((backTo pos (starEach [] X.env)).any (·.1) || (backToKw pos (keywordEach kws X.env)).any (·.1.isNone)) = false := by rfl) :
    PE X (.Call (.Name x p) [] kws pos) (fun σ H Q => tk σ H fun zs H1 => zs.length = ks.length ∧ sp (ix.filterMap fun i => zs[i]?) H1 Q E) := ⟨fun pins s σ H Q I h => by
  refine wpAny_Call_Name_kw (ld_glob I hg hm (PySem.W.callWith_KW0 (h₀ := X.base) I.ok.mod.kin hk hall ?_ hpl) hdb)
  refine thn (hkw.run pos pins s σ H _ I h) fun ws s1 ⟨zs, H1, I1, r, hl, q⟩ => ⟨I1.kIn, ?_⟩
  rw [hks]
  have wl : ws.length = ks.length := by rw [← r.length]; exact hl
  have hlt : ∀ i ∈ ix, i < ws.length := fun i hi => by have := hb.lt i hi; omega
  exact runG (args := ⟨[], ks.zip ws⟩) (ws := [] ++ []) hgd F hr hx I1 (hb.to s1 [] ws I1.kIn rfl wl) (pick_vals r ix hlt) q⟩
/-- f(e, .., k = e, ..) -/
theorem pe_callGK {kws : List Keyword} {ks : List Str} {n : Nat} {ix : List Nat} {tk : TA} (hgd : X.A.guards = some []) (F : FnG X.prog X.w X.K X.mg X.base CT k f fd ps sp) (hr : Room k X.A) (hg : Gl X x) (hm : X.mg x = some (.ref f))
    (hk : PySem.W.keepIn X.K (.ref f) = true) (hb : KwB X.K fd ps ks n ix) (hx : Passes CT X E) (ha : PA X (e :: es) t) (hkw : PK X kws tk) (hall : (backToKw pos (keywordEach kws X.env)).all (·.1.isSome) = true := by rfl)
    (hks : (backToKw pos (keywordEach kws X.env)).filterMap (·.1) = ks := by rfl) (hdb : (x == ("__debug__" : Str)) = false := by decide) (he : starEach (e :: es) X.env = (false, eval e X.env) :: starEach es X.env := by rfl)
    (hpl : ((backTo pos (starEach (e :: es) X.env)).any (·.1) || (backToKw pos (keywordEach kws X.env)).any (·.1.isNone)) = false := by rfl) :
    PE X (.Call (.Name x p) (e :: es) kws pos) (fun σ H Q => t σ H fun vs H1 => tk σ H1 fun zs H2 => vs.length = n ∧ zs.length = ks.length ∧ sp (ix.filterMap fun i => (vs ++ zs)[i]?) H2 Q E) := ⟨fun pins s σ H Q I h => by
  refine wpAny_Call_Name_kw (ld_glob I hg hm (PySem.W.callWith_KW (h₀ := X.base) I.ok.mod.kin hk hall ?_ hpl he) hdb)
  refine thn (ha.run pos pins s σ H _ I h) fun us s1 ⟨vs, H1, I1, r, q⟩ => ?_
  refine thn (hkw.run pos pins s1 σ H1 _ I1 q) fun ws s2 ⟨zs, H2, I2, rz, vl, zl, q2⟩ => ⟨I2.kIn, ?_⟩
  rw [hks]
  have ul : us.length = n := by rw [← r.length]; exact vl
  have wl : ws.length = ks.length := by rw [← rz.length]; exact zl
  have hlt : ∀ i ∈ ix, i < (us ++ ws).length := fun i hi => by
    have := hb.lt i hi
    rw [List.length_append]; omega
  exact runG (args := ⟨us, ks.zip ws⟩) (ws := [] ++ us) hgd F hr hx I2 (hb.to s2 us ws I2.kIn ul wl) (pick_vals (r.append rz) ix hlt) q2⟩
end

/-- a def of the text by its body -/
theorem fnG_of {CT : CXT} {P : Program} {w : World} {K : PySem.W.Frag} {mg : Str → Option Value} {base : Heap} {k : Nat} {f : Addr} {name qual : Str} {params : Arguments} {body : List Stmt} {scope : Scope} {dV kV doc pm cdv ct oc : Value} {an od : Option Addr}
    {osl : Array (Option Value)} {N ps : List Str} {sp : Sp} (lk : K.lookup f = some ⟨oc, od, .func (PySem.W.fnOf name qual params body scope dV kV doc pm an cdv ct), osl⟩)
    (hcd : PySem.W.codeIn K cdv qual = true) (S : FnScope N ps scope) (len : ∀ vs H Q E, sp vs H Q E → vs.length = ps.length)
    (hbody : ∀ (A : Around) (outer : List Env) (s : Shared) (H : Hp) (vs : List V) (Q : VK) (E : XK), A.guards = some [] → Room k (A.deeper (envOfC qual scope s.heap.objs.size f cdv)) → sp vs H Q E →
      ∃ t, PSs (cxOf CT P w K mg base N qual scope f cdv A outer s H E) body t ∧ t { nx := fun _ H' => Q .non H', rt := Q } (L2.start N vs) H) :
    FnG P w K mg base CT (k + 1) f (PySem.W.fnOf name qual params body scope dV kV doc pm an cdv ct) ps sp := by
  refine ⟨len, fun A outer s H args us vs Q E hgd hr en hb rl hsp => ?_⟩
  have stays : ∀ b o, base.get? b = some o → s.heap.get? b = some o := fun b o q => (en.bs b o q).1
  have KX : K.In s.heap := en.mod.kin.keeps stays
  have lim : s.heap.NoLimit := en.mod.nolimit.keeps stays
  have kinds : ∀ y ∈ ps.zip us, scope.names.lookup y.1 = some .local ∨
      (scope.names.lookup y.1 = some .cell ∧ ((cellsFrom (s.heap.objs.size + 1) scope.names []).lookup y.1).isSome = true) := by
    rintro ⟨n, v⟩ hy
    rcases S.par n (List.of_mem_zip hy).1 with z | z
    · exact .inl z
    · exact .inr ⟨z, PySem.W.cellsFrom_some _ _ _ (.inl z)⟩
  refine codeAny_call_function hr.depth (KX _ _ lk) rfl S.co S.gen rfl (PySem.W.codeRec_of KX hcd) (hb _ _ _ _ (wpAny_newFunctionEnv_cells S.kind kinds fun env he s1 x => ?_))
  subst he
  refine ⟨lim.keeps x.toInCall.keep, codeAny_func ?_⟩
  obtain ⟨t, ht, hq⟩ := hbody A outer s H vs Q E hgd (hr.deeper _) hsp
  have I0 := inv_start (CX := CT) (E := E) S hr.hd en (len _ _ _ _ hsp) rl x
  refine wpAny_mono (ht.run [] s1 (L2.start N vs) H _ I0 hq) (fun fl s' hs => ?_) fun _ _ z => z
  cases fl with
  | ret u =>
    obtain ⟨v, σ', H', J, rv, q⟩ := hs
    exact ⟨v, H', J.os, J.bare, J.base, J.hok, rv, q⟩
  | next =>
    obtain ⟨σ', H', J, q⟩ := hs
    exact ⟨V.non, H', J.os, J.bare, J.base, J.hok, (show RelV V.non Value.none from rfl), q⟩
  | brk => exact (hs.choose_spec.choose_spec.2).elim
  | cont => exact (hs.choose_spec.choose_spec.2).elim
/-- .. that lets nothing out -/
theorem okG {P : Program} {w : World} {K : PySem.W.Frag} {mg : Str → Option Value} {base : Heap} {x qual : Str} {st : Stmt} {f : Addr} {fd : FuncData} {N ps : List Str} {k n m : Nat} {Pn : List Nat} {S : Sm}
    (F : Fun K x qual st f fd) (Sc : FnScope N ps (defScope st)) (hn : ps.length = n) (hN : N.length = n + m) (hP : ∀ i ∈ Pn, i < n)
    (hbody : ∀ (cdv : Value) (A : Around) (outer : List Env) (s : Shared) (H : Hp) (E : XK), A.guards = some [] → Room k (A.deeper (envOfC qual (defScope st) s.heap.objs.size f cdv)) →
      DSs (cxOf CX0 P w K mg base N qual (defScope st) f cdv A outer s H E).nox Pn (defBody st) S) : FnG P w K mg base CX0 (k + 1) f fd ps (spD K n (fnD Pn m S)) := by
  obtain ⟨oc, od, kV, doc, pm, an, cdv, ct, osl, rfl, lk, hcd⟩ := F.ex
  refine fnG_of lk hcd Sc (fun vs H Q E h => h.1.trans hn.symm) fun A outer s H vs Q E hgd hr hsp => ?_
  exact ⟨_, (hbody cdv A outer s H E hgd hr).nox, fn_body hsp hN hP⟩
/-- the law's own end -/
theorem law_endG {P : Program} {w : World} {K : PySem.W.Frag} {mg mb : Str → Option Value} {CT : CXT} {k : Nat} {fa a : Addr} {fd : FuncData} {x : Str} {sp : Sp} {s1 : Shared} {vs : List Value} {ns : List Int}
    (KX : K.In s1.heap) (hns : s1.heap.Ns mainGlobals mg) (hb : s1.heap.Ns builtinsNs mb) (hbb : ∀ x : Str, x ≠ "__name__" → mb x = bootBuiltins x) (hlim : s1.heap.NoLimit) (hg : s1.gens = #[])
    (ha : s1.heap.get? a = some { cls := .type "list", data := .seq vs.toArray }) (hi : IntsAre vs ns) (hl : ns.length ≤ sizeLine) (hr : Room k callerA)
    (F : ∀ bs : Heap, K.In bs → bs.Ns mainGlobals mg → FnG P w K mg bs CT k fa fd [x] sp) (hbind : ∀ (s : Shared) (u : Value), BindsTo s fd ⟨[u], []⟩ [(x, u)])
    (hsp : ∀ H : Hp, Only H → SqL K H a (ns.map V.int) → sp [.ref a] H (fun v _ => v = .bl true) fun _ _ _ => False) (hCT : ∀ H e s', CT [] H s1 (fun _ _ _ => False) e s' → False) :
    codeAny (model P w) callerA (.call (.ref fa) ⟨[.ref a], []⟩) (fun r s' => r = .ok (.ret (.bool true)) ∧ OldK s1.heap s'.heap ∧ s'.os = s1.os ∧ AllBare s'.gens) s1 := by
  have rv := vals_ints hi
  -- in any abstract heap that tracks the script at most
  have at_heap : ∀ H : Hp, Only H → SqL K H a (ns.map V.int) → HOk P w H s1.heap → (∀ b, H b ≠ none → b = a) → (H a ≠ none → K.lookup a = none) →
      codeAny (model P w) callerA (.call (.ref fa) ⟨[.ref a], []⟩) (fun r s' => r = .ok (.ret (.bool true)) ∧ OldK s1.heap s'.heap ∧ s'.os = s1.os ∧ AllBare s'.gens) s1 := by
    intro H hO hS hok hA hK
    have untracked : ∀ {b : Addr} {o : Obj} {es : Array DictEntry} {ep : Nat}, s1.heap.get? b = some o → o.data = .dict es ep → H b = none := by
      intro b o es ep e1 d
      cases q : H b with
      | none => rfl
      | some u =>
        obtain rfl : b = a := hA b (by rw [q]; exact fun z => nomatch z)
        rw [ha] at e1
        cases e1
        exact nomatch d
    have names : ∀ {b : Addr} {m : Str → Option Value}, s1.heap.Ns b m → (hidT s1.heap H).Ns b m := by
      rintro b m ⟨o, es, ep, e1, d, r⟩
      exact ⟨o, es, ep, hidT_get e1 (untracked e1 d), d, r⟩
    have hKb : K.In (hidT s1.heap H) := fun b o e1 => by
      refine hidT_get (KX b o e1) ?_
      cases q : H b with
      | none => rfl
      | some u =>
        obtain rfl : b = a := hA b (by rw [q]; exact fun z => nomatch z)
        have := hK (by rw [q]; exact fun z => nomatch z)
        rw [this] at e1
        cases e1
    obtain ⟨mc, l1, l2⟩ := hlim
    have en : Env0 P w K mg (hidT s1.heap H) callerA [] s1 H :=
      ⟨rfl, ⟨hKb, names hns, ⟨mb, names hb, hbb⟩, ⟨mc, names l1, l2⟩⟩, fun b o e1 => of_hidT e1, Nat.le_of_eq (hidT_size _ _), trivial, fun b z => absurd z (List.not_mem_nil), hok, .of_eq hg⟩
    refine codeAny_mono ((F _ hKb (names hns)).go callerA [] s1 H ⟨[.ref a], []⟩ [.ref a] [.ref a] _ _ rfl hr en (hbind s1 (.ref a)) (.cons rfl .nil) (hsp H hO hS)) fun r s' h => ?_
    cases r with
    | error er => exact (hCT H er s' h).elim
    | ok fl =>
      cases fl with
      | next => exact h.elim
      | brk => exact h.elim
      | cont => exact h.elim
      | ret u =>
        obtain ⟨v, H', os, bare, un, hok2, rr, q⟩ := h
        obtain rfl : v = .bl true := q
        obtain rfl : u = Value.bool true := rr
        refine ⟨rfl, OldK.of_keep fun b o e1 => ?_, os, bare⟩
        cases q : H b with
        | none => exact un.keep b o e1 q (fun z => nomatch z) (fun z => nomatch z)
        | some u =>
          rcases hO b with z | ⟨ob, xs, z⟩
          · rw [q] at z; cases z
          · obtain ⟨k1, _⟩ := hok b _ z
            obtain ⟨k2, _⟩ := hok2 b _ (un.frzs b ob _ z)
            rw [e1] at k1
            cases k1
            exact k2
  cases hk : K.lookup a with
  | some o =>
    have e1 := KX a o hk
    rw [ha] at e1
    cases e1
    have none0 : ∀ b : Addr, (fun _ => none : Hp) b = none := fun _ => rfl
    refine at_heap (fun _ => none) (fun _ => .inl rfl) (.inr ⟨_, vs.toArray, _, hk, rfl, rfl, rfl, ?_, by simpa using rv⟩) (fun b u z => nomatch ((none0 b).symm.trans z)) (fun b z => absurd rfl z) fun z => absurd rfl z
    rw [List.size_toArray, hi.length]
    exact hl
  | none =>
    let H0 : Hp := fun b => if b = a then some (.frz { cls := .type "list", data := .seq vs.toArray } (.lst (ns.map V.int))) else none
    have at_a : H0 a = some (.frz { cls := .type "list", data := .seq vs.toArray } (.lst (ns.map V.int))) := if_pos rfl
    have off : ∀ {b : Addr}, b ≠ a → H0 b = none := fun h => if_neg h
    refine at_heap H0 (fun b => ?_) (.inl (.inr ⟨_, at_a⟩)) (fun b u z => ?_) (fun b z => ?_) fun _ => hk
    · by_cases hb : b = a
      · subst hb; exact .inr ⟨_, _, at_a⟩
      · exact .inl (off hb)
    · by_cases hb : b = a
      · subst hb
        rw [at_a] at z
        cases z
        exact ⟨ha, by rw [List.length_map]; exact hl, vs, _, rv, ha⟩
      · rw [off hb] at z; cases z
    · by_cases hb : b = a
      · exact hb
      · exact absurd (off hb) z
/-- the law that hands back True, in place of the hand layer's last step -/
theorem walkG {l : PySem.W.OpenLaw} {n k : Nat} {q : Program} {loose : List Str} {XP : (Str → Option Value) → Heap → Prop} {YP : World → Heap → Prop} {d : DefRec} {K : Params → PySem.W.Frag} {x : Str} {f : Fn}
    (hn : l.most = some n) (hn2 : n ≤ sizeLine) (hdf : d.params.defaults = []) (hr : Room k callerA) (hY : ∀ (w : World) (h : Heap), YP w h → (K w.params).In h)
    (F : ∀ (w : World) (mg : Str → Option Value) (fa : Addr) (h : Heap), (K w.params).In h → h.Ns mainGlobals mg → mg d.name = some (.ref fa) → ∃ fd : FuncData, (∀ (s : Shared) (u : Value), BindsTo s fd ⟨[u], []⟩ [(x, u)]) ∧
        ∀ bs : Heap, (K w.params).In bs → bs.Ns mainGlobals mg → FnG l.prog w (K w.params) mg bs CX0 k fa fd [x] (spD (K w.params) 1 f))
    (hJ : ∀ H : Hp, Memo.J H H) (hf : ∀ ns : List Int, ns.length ≤ n → ∃ as', f [.fz (ns.map PyData.int)] = some (.im (.bool true), as')) :
    PySem.W.WalkO q loose XP YP l.row.toRowW d [] (fun f vs => PySem.call f vs) := by
  refine Att.attach_call hn hdf fun w s0 s1 mg mb fa o pm cd doc a vs ns G Y ho hd hcd hmg hobj hints hlen hg => ?_
  have KX := hY w _ Y
  obtain ⟨fd, hb, hF⟩ := F w mg fa _ KX G.T.g hmg
  refine law_endG KX G.T.g G.T.b G.T.builtins G.T.nolimit hg hobj hints (Nat.le_trans hlen hn2) hr hF hb (fun H hO hS => ?_) fun _ _ _ z => z
  obtain ⟨as', e⟩ := hf ns hlen
  refine ⟨rfl, H, [.fz (ns.map PyData.int)], _, as', ⟨Same.refl _, rfl, fun i s h => ?_, fun i j p tt uu ds es h1 h2 => ?_, hJ H⟩, e, fun v G' H' R st rv => ?_⟩
  · cases i with
    | zero =>
      cases h
      exact ⟨a, _, rfl, hS, RpAll.ofInts ns⟩
    | succ i => cases h
  · cases i with
    | zero => cases h2
    | succ i => cases h2
  · cases rv
    rfl
end CK
/-! built-in functions, calls, stores -/
namespace CK
open PySem PySem.Spec PyProof.Rows L2
variable [Memo]

section
variable {X : Cx} {a b c e : Expr} {oa ob oc : Od} {F : Ex} {pos p : Pos} {x : Str}
/-- a built-in of one argument -/
theorem de_b1 {id : String} {r : List V → Hp → VK → Prop} {f : PyData → Option Sl} (hc : CallR X (.builtin id) r)
    (hf : ∀ (G H : Hp) (σ : SS) (δ : List Sl) (Q : VK) (v : V) (d : PyData) (z : Sl), Rel X.K G H σ δ → RT X.K G H v d → f d = some z → Want X.K G H σ δ z Q → r [v] H Q)
    (hg : Gl X x) (hm : X.mg x = none) (hv : bootBuiltins x = some (.builtin id)) (ha : DO X a oa) (hn : x ≠ "__name__" := by decide) (hdb : (x == ("__debug__" : Str)) = false := by decide) (hs : starEach [a] X.env = (false, eval a X.env) :: starEach [] X.env := by rfl)
    (hpl : (backTo pos (starEach [] X.env)).any (·.1) = false := by rfl) : DE X (.Call (.Name x p) [a] [] pos) (dOp1 f oa) :=
  PE.by (pe_callB hc hg hm hv (pa_cons ha.pe pa_nil hs) hn hdb hs hpl) fun σ H Q h => od1 h fun G H1 δ v d z R r1 e3 q => hf G H1 σ δ Q v d z R r1 e3 q
theorem de_t1 {T : String} {r : List V → Hp → VK → Prop} {f : PyData → Option Sl} (hc : CallR X (.type T) r)
    (hf : ∀ (G H : Hp) (σ : SS) (δ : List Sl) (Q : VK) (v : V) (d : PyData) (z : Sl), Rel X.K G H σ δ → RT X.K G H v d → f d = some z → Want X.K G H σ δ z Q → r [v] H Q)
    (hg : Gl X x) (hm : X.mg x = none) (hv : bootBuiltins x = some (.type T)) (ha : DO X a oa) (hn : x ≠ "__name__" := by decide) (hdb : (x == ("__debug__" : Str)) = false := by decide) (hs : starEach [a] X.env = (false, eval a X.env) :: starEach [] X.env := by rfl)
    (hpl : (backTo pos (starEach [] X.env)).any (·.1) = false := by rfl) : DE X (.Call (.Name x p) [a] [] pos) (dOp1 f oa) :=
  PE.by (pe_callTy hc hg hm hv (pa_cons ha.pe pa_nil hs) hn hdb hs hpl) fun σ H Q h => od1 h fun G H1 δ v d z R r1 e3 q => hf G H1 σ δ Q v d z R r1 e3 q
theorem de_b2 {id : String} {r : List V → Hp → VK → Prop} {f : PyData → PyData → Option Sl} (hc : CallR X (.builtin id) r)
    (hf : ∀ (G H : Hp) (σ : SS) (δ : List Sl) (Q : VK) (v w : V) (d e : PyData) (z : Sl), Rel X.K G H σ δ → RT X.K G H v d → RT X.K G H w e → f d e = some z → Want X.K G H σ δ z Q → r [v, w] H Q)
    (hg : Gl X x) (hm : X.mg x = none) (hv : bootBuiltins x = some (.builtin id)) (ha : DO X a oa) (hb : DO X b ob) (hn : x ≠ "__name__" := by decide) (hdb : (x == ("__debug__" : Str)) = false := by decide) (hs : starEach [a, b] X.env = (false, eval a X.env) :: starEach [b] X.env := by rfl) (hs2 : starEach [b] X.env = (false, eval b X.env) :: starEach [] X.env := by rfl)
    (hpl : (backTo pos (starEach [b] X.env)).any (·.1) = false := by rfl) : DE X (.Call (.Name x p) [a, b] [] pos) (dOp2 f oa ob) :=
  PE.by (pe_callB hc hg hm hv (pa_cons ha.pe (pa_cons hb.pe pa_nil hs2) hs) hn hdb hs hpl) fun σ H Q h => od2 h fun G H1 δ v w d e z R r1 r2 e3 q => hf G H1 σ δ Q v w d e z R r1 r2 e3 q

def absD : PyData → Option Sl
  | .int i => iD (if i < 0 then -i else i)
  | _ => none
def max2D : PyData → PyData → Option Sl
  | .int i, .int j => iD (if j > i then j else i)
  | _, _ => none
def min2D : PyData → PyData → Option Sl
  | .int i, .int j => iD (if j < i then j else i)
  | _, _ => none
def lenD : PyData → Option Sl
  | .list ds => iD ds.length
  | .tuple ds => iD ds.length
  | .str s => if s.length ≤ LINE then iD s.length else none
  | _ => none
def intD : PyData → Option Sl
  | .int i => iD i
  | .bool b => iD (if b then 1 else 0)
  | .str s => if s.length ≤ 640 then (PySem.intText? s).bind fun n => iD n else none
  | _ => none
def strD : PyData → Option Sl
  | .int i => if i.natAbs.log2 < 1920 then some (.im (.str (toString i))) else none
  | .str s => some (.im (.str s))
  | _ => none
def reprD (d : PyData) : Option Sl := if PyData.showable d = true ∧ PyData.hasDict d = false ∧ (PyData.shown d).length ≤ LINE ∧ PyData.depth d ≤ 64 then some (.im (.str (PyData.shown d))) else none
def listD : PyData → Option Sl
  | .list ds => some (.bx .l ds)
  | .tuple ds => some (.bx .l ds)
  | _ => none
def tupD : PyData → Option Sl
  | .list ds => some (.im (.tuple ds))
  | .tuple ds => some (.im (.tuple ds))
  | _ => none
/-- the ints of data -/
def intsD : List PyData → Option (List Int)
  | [] => some []
  | .int i :: r => (intsD r).bind fun t => some (i :: t)
  | _ => none
def boolsD : List PyData → Option (List Bool)
  | [] => some []
  | .bool i :: r => (boolsD r).bind fun t => some (i :: t)
  | _ => none
theorem intsD_eq : ∀ {ds : List PyData} {ns : List Int}, intsD ds = some ns → ds = ns.map PyData.int
  | [], ns, h => by cases h; rfl
  | d :: ds, ns, h => by
    cases d <;> try (cases h)
    rename_i i
    obtain ⟨t, e, h⟩ := bind_some_of (show (intsD ds).bind (fun t => some (i :: t)) = some ns from h)
    cases h
    rw [intsD_eq e]; rfl
theorem intsD_of : ∀ ns : List Int, intsD (ns.map PyData.int) = some ns
  | [] => rfl
  | n :: ns => by
    show (intsD (ns.map PyData.int)).bind (fun t => some (n :: t)) = _
    rw [intsD_of ns]; rfl
theorem boolsD_eq : ∀ {ds : List PyData} {ns : List Bool}, boolsD ds = some ns → ds = ns.map PyData.bool
  | [], ns, h => by cases h; rfl
  | d :: ds, ns, h => by
    cases d <;> try (cases h)
    rename_i i
    obtain ⟨t, e, h⟩ := bind_some_of (show (boolsD ds).bind (fun t => some (i :: t)) = some ns from h)
    cases h
    rw [boolsD_eq e]; rfl
theorem boolsD_of : ∀ ns : List Bool, boolsD (ns.map PyData.bool) = some ns
  | [] => rfl
  | n :: ns => by
    show (boolsD (ns.map PyData.bool)).bind (fun t => some (n :: t)) = _
    rw [boolsD_of ns]; rfl
def sumD : PyData → Option Sl
  | .list ds => (intsD ds).bind fun ns => iD ns.sum
  | _ => none
def maxL : List Int → Option Int
  | [] => none
  | a :: r => some (r.foldl (fun m x => if x > m then x else m) a)
def minL : List Int → Option Int
  | [] => none
  | a :: r => some (r.foldl (fun m x => if x < m then x else m) a)
def maxD : PyData → Option Sl
  | .list ds => (intsD ds).bind fun ns => (maxL ns).bind fun m => iD m
  | _ => none
def minD : PyData → Option Sl
  | .list ds => (intsD ds).bind fun ns => (minL ns).bind fun m => iD m
  | _ => none
/-- sorted ints -/
def insI (a : Int) : List Int → List Int
  | [] => [a]
  | b :: r => if a ≤ b then a :: b :: r else b :: insI a r
def sortI : List Int → List Int
  | [] => []
  | a :: r => insI a (sortI r)
def sortedD : PyData → Option Sl
  | .list ds => (intsD ds).bind fun ns => some (.bx .l ((sortI ns).map PyData.int))
  | _ => none
def anyD : PyData → Option Sl
  | .list ds => (boolsD ds).bind fun ns => bD (ns.any id)
  | _ => none
def allD : PyData → Option Sl
  | .list ds => (boolsD ds).bind fun ns => bD (ns.all id)
  | _ => none
def divmodD : PyData → PyData → Option Sl
  | .int i, .int j => if 0 < j ∧ (i.natAbs.log2 + 1 : Nat) ≤ j.natAbs.log2 + 4000 then some (.im (.tuple [.int (i / j), .int (i % j)])) else none
  | _, _ => none

theorem de_abs (hg : Gl X "abs") (hm : X.mg "abs" = none) (ha : DO X a oa) (hs : starEach [a] X.env = (false, eval a X.env) :: starEach [] X.env := by rfl) (hpl : (backTo pos (starEach [] X.env)).any (·.1) = false := by rfl) : DE X (.Call (.Name "abs" p) [a] [] pos) (dOp1 absD oa) :=
  de_b1 call_abs (fun G H σ δ Q v d z R r1 h q => by
    unfold absD at h
    split at h
    · cases h; exact ⟨_, by rw [r1.int], q.int R⟩
    · cases h) hg hm (by decide +kernel) ha (hs := hs) (hpl := hpl)
theorem de_len (hg : Gl X "len") (hm : X.mg "len" = none) (ha : DO X a oa) (hs : starEach [a] X.env = (false, eval a X.env) :: starEach [] X.env := by rfl) (hpl : (backTo pos (starEach [] X.env)).any (·.1) = false := by rfl) : DE X (.Call (.Name "len" p) [a] [] pos) (dOp1 lenD oa) :=
  de_b1 (CallR.or call_len_seq call_len_str) (fun G H σ δ Q v d z R r1 h q => by
    unfold lenD at h
    split at h
    · cases h
      obtain ⟨p, ws, rfl, h1, ra⟩ := r1.lst R.sub
      exact .inl ⟨p, ws, rfl, .inl (SqL.of h1), by rw [ra.length]; exact q.int R⟩
    · cases h
      obtain ⟨p, ws, rfl, h1, ra⟩ := r1.tup R.sub
      exact .inl ⟨p, ws, rfl, .inr h1, by rw [ra.length]; exact q.int R⟩
    · obtain ⟨hc, h⟩ := of_ite0 h
      cases h; exact .inr ⟨_, by rw [r1.str], hc, q.int R⟩
    · cases h) hg hm PySem.boot_len ha (hs := hs) (hpl := hpl)
theorem de_int1 (hg : Gl X "int") (hm : X.mg "int" = none) (ha : DO X a oa) (hs : starEach [a] X.env = (false, eval a X.env) :: starEach [] X.env := by rfl) (hpl : (backTo pos (starEach [] X.env)).any (·.1) = false := by rfl) : DE X (.Call (.Name "int" p) [a] [] pos) (dOp1 intD oa) :=
  de_t1 (CallR.or call_int1 call_int_str) (fun G H σ δ Q v d z R r1 h q => by
    unfold intD at h
    split at h
    · cases h; exact .inl (.inl ⟨_, by rw [r1.int], q.int R⟩)
    · cases h; exact .inl (.inr ⟨_, by rw [r1.bl], q.int R⟩)
    · obtain ⟨hc, h⟩ := of_ite0 h
      obtain ⟨n, e, h⟩ := bind_some_of h
      cases h; exact .inr ⟨_, n, by rw [r1.str], e, hc, q.int R⟩
    · cases h) hg hm (by decide +kernel) ha (hs := hs) (hpl := hpl)
theorem de_str1 (hg : Gl X "str") (hm : X.mg "str" = none) (ha : DO X a oa) (hs : starEach [a] X.env = (false, eval a X.env) :: starEach [] X.env := by rfl) (hpl : (backTo pos (starEach [] X.env)).any (·.1) = false := by rfl) : DE X (.Call (.Name "str" p) [a] [] pos) (dOp1 strD oa) :=
  de_t1 (CallR.or call_str_int SkE.call_str_str) (fun G H σ δ Q v d z R r1 h q => by
    unfold strD at h
    split at h
    · obtain ⟨hc, h⟩ := of_ite h
      cases h; exact .inl ⟨_, by rw [r1.int], hc, q.str R⟩
    · cases h; exact .inr ⟨_, by rw [r1.str], q.str R⟩
    · cases h) hg hm (by decide +kernel) ha (hs := hs) (hpl := hpl)
theorem de_list1 (hg : Gl X "list") (hm : X.mg "list" = none) (ha : DO X a oa) (hs : starEach [a] X.env = (false, eval a X.env) :: starEach [] X.env := by rfl) (hpl : (backTo pos (starEach [] X.env)).any (·.1) = false := by rfl) : DE X (.Call (.Name "list" p) [a] [] pos) (dOp1 listD oa) :=
  de_t1 call_list_of (fun G H σ δ Q v d z R r1 h q => by
    unfold listD at h
    split at h
    · cases h
      obtain ⟨p, ws, rfl, h1, ra⟩ := r1.lst R.sub
      exact ⟨p, ws, rfl, .inl (SqL.of h1), q.ow R ra⟩
    · cases h
      obtain ⟨p, ws, rfl, h1, ra⟩ := r1.tup R.sub
      exact ⟨p, ws, rfl, .inr h1, q.ow R ra⟩
    · cases h) hg hm (by decide +kernel) ha (hs := hs) (hpl := hpl)
theorem de_tup1 (hg : Gl X "tuple") (hm : X.mg "tuple" = none) (ha : DO X a oa) (hs : starEach [a] X.env = (false, eval a X.env) :: starEach [] X.env := by rfl) (hpl : (backTo pos (starEach [] X.env)).any (·.1) = false := by rfl) : DE X (.Call (.Name "tuple" p) [a] [] pos) (dOp1 tupD oa) :=
  de_t1 call_tuple_of (fun G H σ δ Q v d z R r1 h q => by
    unfold tupD at h
    split at h
    · cases h
      obtain ⟨p, ws, rfl, h1, ra⟩ := r1.lst R.sub
      exact ⟨p, ws, rfl, .inl ⟨SqL.of h1, q.tup R ra⟩⟩
    · cases h
      rcases r1 with r1 | ⟨_, _, _, _, ee, _⟩
      · cases r1 with
        | tup hq hr => exact ⟨_, _, rfl, .inr ⟨sqT_same R.sub hq, q.im R (.tup hq hr)⟩⟩
      · cases ee
    · cases h) hg hm (by decide +kernel) ha (hs := hs) (hpl := hpl)
theorem de_max2 (hcl : X.calm = true) (hg : Gl X "max") (hm : X.mg "max" = none) (ha : DO X a oa) (hb : DO X b ob) (hs : starEach [a, b] X.env = (false, eval a X.env) :: starEach [b] X.env := by rfl) (hs2 : starEach [b] X.env = (false, eval b X.env) :: starEach [] X.env := by rfl)
    (hpl : (backTo pos (starEach [b] X.env)).any (·.1) = false := by rfl) : DE X (.Call (.Name "max" p) [a, b] [] pos) (dOp2 max2D oa ob) :=
  de_b2 (call_max2 hcl) (fun G H σ δ Q v w d e z R r1 r2 h q => by
    unfold max2D at h
    split at h
    · cases h; exact ⟨_, _, by rw [r1.int, r2.int], q.int R⟩
    · cases h) hg hm (by decide +kernel) ha hb (hs := hs) (hs2 := hs2) (hpl := hpl)
theorem de_min2 (hcl : X.calm = true) (hg : Gl X "min") (hm : X.mg "min" = none) (ha : DO X a oa) (hb : DO X b ob) (hs : starEach [a, b] X.env = (false, eval a X.env) :: starEach [b] X.env := by rfl) (hs2 : starEach [b] X.env = (false, eval b X.env) :: starEach [] X.env := by rfl)
    (hpl : (backTo pos (starEach [b] X.env)).any (·.1) = false := by rfl) : DE X (.Call (.Name "min" p) [a, b] [] pos) (dOp2 min2D oa ob) :=
  de_b2 (call_min2 hcl) (fun G H σ δ Q v w d e z R r1 r2 h q => by
    unfold min2D at h
    split at h
    · cases h; exact ⟨_, _, by rw [r1.int, r2.int], q.int R⟩
    · cases h) hg hm (by decide +kernel) ha hb (hs := hs) (hs2 := hs2) (hpl := hpl)
theorem de_sum (hcl : X.calm = true) (hg : Gl X "sum") (hm : X.mg "sum" = none) (ha : DO X a oa) (hs : starEach [a] X.env = (false, eval a X.env) :: starEach [] X.env := by rfl) (hpl : (backTo pos (starEach [] X.env)).any (·.1) = false := by rfl) : DE X (.Call (.Name "sum" p) [a] [] pos) (dOp1 sumD oa) :=
  de_b1 (cr_sum hcl) (fun G H σ δ Q v d z R r1 h q => by
    unfold sumD at h
    split at h
    · obtain ⟨ns, e, h⟩ := bind_some_of h
      cases h
      obtain ⟨p, ws, rfl, h1, ra⟩ := r1.lst R.sub
      rw [intsD_eq e] at ra
      rw [ra.ints] at h1
      exact ⟨p, ns, rfl, SqL.of h1, q.int R⟩
    · cases h) hg hm (by decide +kernel) ha (hs := hs) (hpl := hpl)
theorem foldl_max (r : List Int) : ∀ a : Int, (r.foldl (fun m x => if x > m then x else m) a ∈ a :: r) ∧ ∀ y ∈ a :: r, y ≤ r.foldl (fun m x => if x > m then x else m) a := by
  induction r with
  | nil => intro a; simp
  | cons b r ih =>
    intro a
    rw [List.foldl_cons]
    obtain ⟨h1, h2⟩ := ih (if b > a then b else a)
    have h3 := h2 (if b > a then b else a) List.mem_cons_self
    have h4 : a ≤ (if b > a then b else a) ∧ b ≤ (if b > a then b else a) := by split <;> omega
    refine ⟨?_, fun y hy => ?_⟩
    · rcases List.mem_cons.mp h1 with h | h
      · rw [h]; split <;> simp
      · exact List.mem_cons_of_mem _ (List.mem_cons_of_mem _ h)
    · rcases List.mem_cons.mp hy with h | hy
      · subst h; exact Int.le_trans h4.1 h3
      · rcases List.mem_cons.mp hy with h | hy
        · subst h; exact Int.le_trans h4.2 h3
        · exact h2 y (List.mem_cons_of_mem _ hy)
theorem foldl_min (r : List Int) : ∀ a : Int, (r.foldl (fun m x => if x < m then x else m) a ∈ a :: r) ∧ ∀ y ∈ a :: r, r.foldl (fun m x => if x < m then x else m) a ≤ y := by
  induction r with
  | nil => intro a; simp
  | cons b r ih =>
    intro a
    rw [List.foldl_cons]
    obtain ⟨h1, h2⟩ := ih (if b < a then b else a)
    have h3 := h2 (if b < a then b else a) List.mem_cons_self
    have h4 : (if b < a then b else a) ≤ a ∧ (if b < a then b else a) ≤ b := by split <;> omega
    refine ⟨?_, fun y hy => ?_⟩
    · rcases List.mem_cons.mp h1 with h | h
      · rw [h]; split <;> simp
      · exact List.mem_cons_of_mem _ (List.mem_cons_of_mem _ h)
    · rcases List.mem_cons.mp hy with h | hy
      · subst h; exact Int.le_trans h3 h4.1
      · rcases List.mem_cons.mp hy with h | hy
        · subst h; exact Int.le_trans h3 h4.2
        · exact h2 y (List.mem_cons_of_mem _ hy)
theorem maxL_spec {ns : List Int} {m : Int} (h : maxL ns = some m) : m ∈ ns ∧ ∀ y ∈ ns, y ≤ m := by
  cases ns with
  | nil => cases h
  | cons a r => cases h; exact foldl_max r a
theorem minL_spec {ns : List Int} {m : Int} (h : minL ns = some m) : m ∈ ns ∧ ∀ y ∈ ns, m ≤ y := by
  cases ns with
  | nil => cases h
  | cons a r => cases h; exact foldl_min r a
theorem de_max1 (hcl : X.calm = true) (hg : Gl X "max") (hm : X.mg "max" = none) (ha : DO X a oa) (hs : starEach [a] X.env = (false, eval a X.env) :: starEach [] X.env := by rfl) (hpl : (backTo pos (starEach [] X.env)).any (·.1) = false := by rfl) : DE X (.Call (.Name "max" p) [a] [] pos) (dOp1 maxD oa) :=
  de_b1 (cr_max hcl) (fun G H σ δ Q v d z R r1 h q => by
    unfold maxD at h
    split at h
    · obtain ⟨ns, e, h⟩ := bind_some_of h
      obtain ⟨m, e2, h⟩ := bind_some_of h
      cases h
      obtain ⟨p, ws, rfl, h1, ra⟩ := r1.lst R.sub
      rw [intsD_eq e] at ra
      rw [ra.ints] at h1
      obtain ⟨m1, m2⟩ := maxL_spec e2
      refine ⟨p, ns, rfl, SqL.of h1, List.length_pos_of_mem m1, fun k k1 k2 => ?_⟩
      have : k = m := Int.le_antisymm (m2 k k1) (k2 m m1)
      rw [this]; exact q.int R
    · cases h) hg hm (by decide +kernel) ha (hs := hs) (hpl := hpl)
theorem de_min1 (hcl : X.calm = true) (hg : Gl X "min") (hm : X.mg "min" = none) (ha : DO X a oa) (hs : starEach [a] X.env = (false, eval a X.env) :: starEach [] X.env := by rfl) (hpl : (backTo pos (starEach [] X.env)).any (·.1) = false := by rfl) : DE X (.Call (.Name "min" p) [a] [] pos) (dOp1 minD oa) :=
  de_b1 (cr_min hcl) (fun G H σ δ Q v d z R r1 h q => by
    unfold minD at h
    split at h
    · obtain ⟨ns, e, h⟩ := bind_some_of h
      obtain ⟨m, e2, h⟩ := bind_some_of h
      cases h
      obtain ⟨p, ws, rfl, h1, ra⟩ := r1.lst R.sub
      rw [intsD_eq e] at ra
      rw [ra.ints] at h1
      obtain ⟨m1, m2⟩ := minL_spec e2
      refine ⟨p, ns, rfl, SqL.of h1, List.length_pos_of_mem m1, fun k k1 k2 => ?_⟩
      have : k = m := Int.le_antisymm (k2 m m1) (m2 k k1)
      rw [this]; exact q.int R
    · cases h) hg hm (by decide +kernel) ha (hs := hs) (hpl := hpl)
theorem de_any (hcl : X.calm = true) (hg : Gl X "any") (hm : X.mg "any" = none) (ha : DO X a oa) (hs : starEach [a] X.env = (false, eval a X.env) :: starEach [] X.env := by rfl) (hpl : (backTo pos (starEach [] X.env)).any (·.1) = false := by rfl) : DE X (.Call (.Name "any" p) [a] [] pos) (dOp1 anyD oa) :=
  de_b1 (cr_any hcl) (fun G H σ δ Q v d z R r1 h q => by
    unfold anyD at h
    split at h
    · obtain ⟨ns, e, h⟩ := bind_some_of h
      cases h
      obtain ⟨p, ws, rfl, h1, ra⟩ := r1.lst R.sub
      rw [boolsD_eq e] at ra
      rw [ra.bools] at h1
      exact ⟨p, ns, rfl, SqL.of h1, q.bl R⟩
    · cases h) hg hm (by decide +kernel) ha (hs := hs) (hpl := hpl)
theorem de_all (hcl : X.calm = true) (hg : Gl X "all") (hm : X.mg "all" = none) (ha : DO X a oa) (hs : starEach [a] X.env = (false, eval a X.env) :: starEach [] X.env := by rfl) (hpl : (backTo pos (starEach [] X.env)).any (·.1) = false := by rfl) : DE X (.Call (.Name "all" p) [a] [] pos) (dOp1 allD oa) :=
  de_b1 (cr_all hcl) (fun G H σ δ Q v d z R r1 h q => by
    unfold allD at h
    split at h
    · obtain ⟨ns, e, h⟩ := bind_some_of h
      cases h
      obtain ⟨p, ws, rfl, h1, ra⟩ := r1.lst R.sub
      rw [boolsD_eq e] at ra
      rw [ra.bools] at h1
      exact ⟨p, ns, rfl, SqL.of h1, q.bl R⟩
    · cases h) hg hm (by decide +kernel) ha (hs := hs) (hpl := hpl)
theorem insI_perm (a : Int) : ∀ l : List Int, (insI a l).Perm (a :: l)
  | [] => .refl _
  | b :: r => by
    unfold insI
    split
    · exact .refl _
    · exact ((insI_perm a r).cons b).trans (.swap a b r)
theorem sortI_perm : ∀ l : List Int, (sortI l).Perm l
  | [] => .refl _
  | a :: r => (insI_perm a _).trans ((sortI_perm r).cons a)
theorem insI_sorted (a : Int) : ∀ l : List Int, l.Pairwise (· ≤ ·) → (insI a l).Pairwise (· ≤ ·)
  | [], _ => by simp [insI]
  | b :: r, h => by
    unfold insI
    split
    · rename_i hab
      refine List.pairwise_cons.mpr ⟨fun x hx => ?_, h⟩
      rcases List.mem_cons.mp hx with e | hx
      · rw [e]; exact hab
      · exact Int.le_trans hab ((List.pairwise_cons.mp h).1 x hx)
    · rename_i hab
      refine List.pairwise_cons.mpr ⟨fun x hx => ?_, insI_sorted a r (List.pairwise_cons.mp h).2⟩
      rcases List.mem_cons.mp ((insI_perm a r).mem_iff.mp hx) with e | hx
      · rw [e]; omega
      · exact (List.pairwise_cons.mp h).1 x hx
theorem sortI_sorted : ∀ l : List Int, (sortI l).Pairwise (· ≤ ·)
  | [] => .nil
  | a :: r => insI_sorted a _ (sortI_sorted r)
theorem sorted_unique {l l' : List Int} (h : l.Perm l') (s : l.Pairwise (· ≤ ·)) (s' : l'.Pairwise (· ≤ ·)) : l = l' :=
  List.Perm.eq_of_pairwise (fun a b _ _ h1 h2 => Int.le_antisymm h1 h2) s s' h
theorem de_sorted (hg : Gl X "sorted") (hm : X.mg "sorted" = none) (ha : DO X a oa) (hs : starEach [a] X.env = (false, eval a X.env) :: starEach [] X.env := by rfl) (hpl : (backTo pos (starEach [] X.env)).any (·.1) = false := by rfl) : DE X (.Call (.Name "sorted" p) [a] [] pos) (dOp1 sortedD oa) :=
  de_b1 cr_sortedI (fun G H σ δ Q v d z R r1 h q => by
    unfold sortedD at h
    split at h
    · obtain ⟨ns, e, h⟩ := bind_some_of h
      cases h
      obtain ⟨p, ws, rfl, h1, ra⟩ := r1.lst R.sub
      rw [intsD_eq e] at ra
      rw [ra.ints] at h1
      refine ⟨p, ns, rfl, SqL.of h1, fun ns' t hp hs ht => ?_⟩
      have : ns' = sortI ns := sorted_unique (hp.trans (sortI_perm ns).symm) hs (sortI_sorted ns)
      subst this
      exact q.ow R (RpAll.ofInts _) t ht
    · cases h) hg hm (by decide +kernel) ha (hs := hs) (hpl := hpl)
theorem de_divmod (hg : Gl X "divmod") (hm : X.mg "divmod" = none) (ha : DO X a oa) (hb : DO X b ob) (hs : starEach [a, b] X.env = (false, eval a X.env) :: starEach [b] X.env := by rfl) (hs2 : starEach [b] X.env = (false, eval b X.env) :: starEach [] X.env := by rfl)
    (hpl : (backTo pos (starEach [b] X.env)).any (·.1) = false := by rfl) : DE X (.Call (.Name "divmod" p) [a, b] [] pos) (dOp2 divmodD oa ob) :=
  de_b2 call_divmodW (fun G H σ δ Q v w d e z R r1 r2 h q => by
    unfold divmodD at h
    split at h
    · rename_i i j
      obtain ⟨hc, h⟩ := of_ite h
      cases h
      refine ⟨_, _, by rw [r1.int, r2.int], divp_ok hc.1 ?_, q.tup R (.cons (.int _) (.cons (.int _) .nil))⟩
      have h1 := intBits_le i
      have h2 : Builtin.Int.intBits j = j.natAbs.log2 + 1 := by
        unfold Builtin.Int.intBits
        split
        · rename_i h0
          have : j = 0 := by simpa using h0
          omega
        · rfl
      omega
    · cases h) hg hm (by decide +kernel) ha hb (hs := hs) (hs2 := hs2) (hpl := hpl)

/-- repr -/
theorem call_reprD (hgd : X.A.guards = some []) (hu : X.A.units + 128 < cLine) : CallR X (.builtin "repr") (fun xs H Q => ∃ x d, xs = [x] ∧ Dp X.K H x d ∧ PyData.showable d = true ∧ PyData.hasDict d = false ∧ (PyData.shown d).length ≤ sizeLine ∧ PyData.depth d ≤ 64 ∧ Q (.str (PyData.shown d)) H) := by
  intro pins s σ H xs us Q I rv h
  obtain ⟨x, d, rfl, hd, hs, hdi, hz, hdp, q⟩ := h
  cases rv with
  | cons r rr =>
    cases rr
    rename_i u
    obtain ⟨as, rd⟩ := Dp.reads I d x u hd r
    cases rd with
    | none => exact PySem.P.repr_of_none ⟨.str _, H, I.tok _, ⟨_, rfl⟩, q⟩
    | bool b => exact PySem.P.repr_of_bool ⟨.str _, H, I.tok _, ⟨_, rfl⟩, q⟩
    | int i t => exact PySem.P.repr_of_int (of_decide_eq_true hs) ⟨.str _, H, I.tok _, ⟨_, rfl⟩, q⟩
    | str y t => exact PySem.P.repr_of_str ⟨.str _, H, I.tok _, ⟨_, rfl⟩, q⟩ hz
    | list h1 h2 h3 h4 => exact repr_of_reads' (.list h1 h2 h3 h4) hs (PyData.noDict_hsm hdi) hgd (by omega) (fun _ _ e => e) (fun h' u tk k => ⟨.str _, H, I.kept k, ⟨_, rfl⟩, q⟩) hz
    | tuple h1 h2 h3 h4 => exact repr_of_reads' (.tuple h1 h2 h3 h4) hs (PyData.noDict_hsm hdi) hgd (by omega) (fun _ _ e => e) (fun h' u tk k => ⟨.str _, H, I.kept k, ⟨_, rfl⟩, q⟩) hz
    | dict h1 h2 h3 h4 h5 => cases hdi
theorem de_repr (hgd : X.A.guards = some []) (hu : X.A.units + 128 < cLine) (hg : Gl X "repr") (hm : X.mg "repr" = none) (ha : DO X a oa) (hs : starEach [a] X.env = (false, eval a X.env) :: starEach [] X.env := by rfl) (hpl : (backTo pos (starEach [] X.env)).any (·.1) = false := by rfl) : DE X (.Call (.Name "repr" p) [a] [] pos) (dOp1 reprD oa) :=
  de_b1 (call_reprD hgd hu) (fun G H σ δ Q v d z R r1 h q => by
    obtain ⟨⟨h1, h2, h3, h4⟩, h⟩ := of_ite h
    subst h
    exact ⟨v, d, rfl, r1.dp R.sub h2, h1, h2, h3, h4, q.str R⟩) hg hm (by decide +kernel) ha (hs := hs) (hpl := hpl)

/-! ### calls of the text's own defs -/
variable {k n : Nat} {f : Addr} {fd : FuncData} {ps : List Str} {fn : Fn} {as : List Ag} {es : List Expr}
theorem de_call [Still ‹Memo›] (hgd : X.A.guards = some []) (F : FnG X.prog X.w X.K X.mg X.base CX0 k f fd ps (spD X.K n fn)) (hr : Room k X.A) (hg : Gl X x) (hm : X.mg x = some (.ref f)) (hk : PySem.W.keepIn X.K (.ref f) = true)
    (hb : Binds X.K fd ps []) (ha : DA X (e :: es) as) (nd : (agI as).Nodup := by decide) (hn : as.length = n := by rfl) (hdb : (x == ("__debug__" : Str)) = false := by decide)
    (he : starEach (e :: es) X.env = (false, eval e X.env) :: starEach es X.env := by rfl) (hpl : (backTo pos (starEach es X.env)).any (·.1) = false := by rfl) : DE X (.Call (.Name x p) (e :: es) [] pos) (dCall fn as) :=
  PE.by (pe_callG hgd F hr hg hm hk hb pass0 ha hdb he hpl) fun σ H Q h => call_go nd hn h
/-- keywords: the values in the order written, then at their places -/
theorem PK.by {kws : List Keyword} {t t' : TA} (h : PK X kws t) (w : ∀ σ H Q, t' σ H Q → t σ H Q) : PK X kws t' := ⟨fun pos pins s σ H Q I q => h.run pos pins s σ H Q I (w σ H Q q)⟩
abbrev DK (X : Cx) (kws : List Keyword) (as : List Ag) : Prop := PK X kws (tAg X.K as)
theorem dk_nil : DK X [] [] := PK.by pk_nil fun σ H Q h => by
  obtain ⟨G, δ, ps, δ', R, e, q⟩ := h
  cases e
  exact q [] G H R Stp.refl trivial
theorem dk_ex {nm : Option Str} {kpos : Pos} {kws : List Keyword} (ha : DE X e F) (hr : DK X kws as) : DK X (⟨nm, e, kpos⟩ :: kws) (.ex F :: as) := PK.by (pk_cons ha hr) fun σ H Q h => by
  obtain ⟨G, δ, ps, δ', R, e, q⟩ := h
  obtain ⟨⟨r, δ1⟩, e1, e⟩ := bind_some_of e
  obtain ⟨s, e2, e⟩ := bind_some_of e
  obtain ⟨⟨ps1, δ2⟩, e3, e⟩ := bind_some_of e
  cases e
  refine tD_run R e1 fun v G1 H1 R1 st1 rv => ?_
  obtain ⟨G2, R2, st2, _, av⟩ := RV.argd R1 st1 rv e2
  exact ⟨G2, δ1, ps1, _, R2, e3, fun vs G3 H3 R3 st3 aw => q (v :: vs) G3 H3 R3 (st2.trans st3) ⟨av.same st3.same, aw⟩⟩
/-- the callee's slots out of values in another order -/
def fnP (ix : List Nat) (f : Fn) : Fn := fun ss => if ix.length = ss.length ∧ (∀ i ∈ ix, i < ss.length) ∧ ss.all (fun s => match s with | .bx _ _ => false | .no => false | _ => true) = true then
  (f (ix.filterMap fun i => ss[i]?)).bind fun y => if y.2.all (fun s => match s with | .bx _ _ => false | _ => true) = true then some (y.1, ss) else none else none

theorem pick_get {α : Type} {l : List α} : ∀ (ix : List Nat) (j : Nat), (∀ i ∈ ix, i < l.length) → (ix.filterMap fun i => l[i]?)[j]? = (ix[j]?).bind fun i => l[i]?
  | [], j, _ => by simp
  | i :: ix, j, h => by
    have hi := h i List.mem_cons_self
    rw [List.filterMap_cons, List.getElem?_eq_getElem hi]
    cases j with
    | zero => simp [List.getElem?_eq_getElem hi]
    | succ j =>
      simp only [List.getElem?_cons_succ]
      exact pick_get ix j fun z hz => h z (List.mem_cons_of_mem _ hz)
theorem spD_pick [Still ‹Memo›] {K : PySem.W.Frag} {n m : Nat} {ix : List Nat} {fn : Fn} {vs : List V} {H : Hp} {Q : VK} {E : XK} (hm : ix.length = m) (h : spD K n (fnP ix fn) vs H Q E) : vs.length = n ∧ spD K m fn (ix.filterMap fun i => vs[i]?) H Q E := by
  obtain ⟨hl, G, ss, r, ss', R, e, q⟩ := h
  obtain ⟨⟨c1, c2, c3⟩, e⟩ := of_ite0 e
  obtain ⟨⟨r1, ps⟩, e1, e⟩ := bind_some_of e
  obtain ⟨c4, e⟩ := of_ite e
  cases e
  have sl : vs.length = ss.length := by rw [← R.len, List.length_map]
  have c2v : ∀ i ∈ ix, i < vs.length := fun i hi => by rw [sl]; exact c2 i hi
  have noS : ∀ (i : Nat) (t : Bt) (ds : List PyData), ss[i]? ≠ some (.bx t ds) := fun i t ds z => by
    have := List.all_eq_true.mp c3 _ (List.mem_of_getElem? z)
    cases this
  have noP : ∀ (i : Nat) (t : Bt) (ds : List PyData), ps[i]? ≠ some (.bx t ds) := fun i t ds z => by
    have := List.all_eq_true.mp c4 _ (List.mem_of_getElem? z)
    cases this
  have lv : (ix.filterMap fun i => vs[i]?).length = ix.length := pick_len ix c2v
  have lsn : (ix.filterMap fun i => ss[i]?).length = ix.length := pick_len ix c2
  have Rp' : Rel K G H ((ix.filterMap fun i => vs[i]?).map some) (ix.filterMap fun i => ss[i]?) := by
    refine ⟨R.sub, by rw [List.length_map, lv, lsn], fun j s hs => ?_, fun i j p tt uu ds es h1 h2 => ?_, R.inv⟩
    · rw [pick_get ix j c2] at hs
      obtain ⟨i, hi, hs⟩ := Option.bind_eq_some_iff.mp hs
      have := R.slot i s hs
      rw [List.getElem?_map, pick_get ix j c2v, hi]
      rw [List.getElem?_map] at this
      simpa using this
    · rw [pick_get ix i c2] at h2
      obtain ⟨i2, _, h2⟩ := Option.bind_eq_some_iff.mp h2
      exact absurd h2 (noS i2 tt ds)
  have noOwn : ∀ {σ : SS} {δ : List Sl} {a : Addr}, (∀ (i : Nat) (t : Bt) (ds : List PyData), δ[i]? ≠ some (.bx t ds)) → ¬ Own σ δ a := fun h ⟨i, t, ds, _, z⟩ => h i t ds z
  have noI : ∀ (i : Nat) (t : Bt) (ds : List PyData), (ix.filterMap fun i => ss[i]?)[i]? ≠ some (.bx t ds) := fun j t ds z => by
    rw [pick_get ix j c2] at z
    obtain ⟨i2, _, z⟩ := Option.bind_eq_some_iff.mp z
    exact noS i2 t ds z
  refine ⟨hl, by rw [lv]; exact hm, G, _, r1, ps, Rp', e1, fun v G' H' R' st rv => ?_⟩
  refine q v G' H' ⟨R'.sub, R.len, fun i s hs => (R.slot i s hs).same st.same (fun p t ws ds e => absurd (by rw [← e]; exact hs) (noS i t ds)) (mSt st.same (gn_stp Rp' st) (st.stay Rp')), fun i j p t u ds es h1 h2 => absurd h2 (noS i t ds), R'.inv⟩ ?_ ?_
  · exact ⟨fun a o h n => ⟨(st.keep a o h (noOwn noI)).1, noOwn noS⟩, st.dom, st.same, fun a o h => by
      rcases st.grow a o h with z | z | z
      · exact .inl z
      · exact .inr (.inl z)
      · exact absurd z (noOwn noI)⟩
  · cases r1 with
    | bx t ds =>
      obtain ⟨p, ws, h1, h2, h3, h4, h5, h6⟩ := rv
      exact ⟨p, ws, h1, h2, h3, noOwn noS, h5, h6⟩
    | no => exact rv
    | im d => exact rv
    | fz d => exact rv
    | raw d => exact rv
    | mo d => exact rv
/-- f(k = e, ..) -/
theorem de_callK0 [Still ‹Memo›] {kws : List Keyword} {ks : List Str} {ix : List Nat} (hgd : X.A.guards = some []) (F : FnG X.prog X.w X.K X.mg X.base CX0 k f fd ps (spD X.K n fn)) (hr : Room k X.A) (hg : Gl X x) (hm : X.mg x = some (.ref f)) (hk : PySem.W.keepIn X.K (.ref f) = true)
    (hb : KwB X.K fd ps ks 0 ix) (ha : DK X kws as) (nd : (agI as).Nodup := by decide) (hks1 : as.length = ks.length := by rfl) (hix : ix.length = n := by rfl) (hall : (backToKw pos (keywordEach kws X.env)).all (·.1.isSome) = true := by rfl)
    (hks : (backToKw pos (keywordEach kws X.env)).filterMap (·.1) = ks := by rfl) (hdb : (x == ("__debug__" : Str)) = false := by decide) (hpl : ((backTo pos (starEach [] X.env)).any (·.1) || (backToKw pos (keywordEach kws X.env)).any (·.1.isNone)) = false := by rfl) :
    DE X (.Call (.Name x p) [] kws pos) (dCall (fnP ix fn) as) :=
  PE.by (pe_callGK0 hgd F hr hg hm hk hb pass0 ha hall hks hdb hpl) fun σ H Q h => by
    obtain ⟨G, δ, r, δ', R, e, q⟩ := call_go (E := E0) nd hks1 h
    exact ⟨G, δ, r, δ', R, e, fun vs G' H' R' st aw => spD_pick hix (q vs G' H' R' st aw)⟩
end
end CK
/-! lists changed, names changed, chains -/
namespace CK
open PySem PySem.Spec PyProof.Rows L2
variable [Memo]

section
variable {X : Cx} {P : List Nat} {a b c e v : Expr} {oa ob oc : Od} {F Fi : Ex} {pos p cpos apos : Pos} {x : Str}
/-- x.append(e) -/
def dApp (i : Nat) (F : Ex) : Ex := fun δ => (match δ[i]? with | some (.bx .l _) => some () | _ => none).bind fun _ => (F δ).bind fun x => x.1.sh.bind fun d =>
  (match x.2[i]? with | some (.bx .l ds) => some ds | _ => none).bind fun ds => if ds.length < LINE then some (.im .none, x.2.set i (.bx .l (ds ++ [d]))) else none
theorem de_app (i : Nat) {px : Pos} (ha : DE X e F) (hN : X.N[i]? = some x := by rfl) (hv : Vis X.env.scope x := by first | exact Or.inl rfl | exact Or.inr (Or.inl rfl) | exact Or.inr (Or.inr rfl)) (hd : (x == ("__debug__" : Str)) = false := by decide)
    (hcd : (x == ("__classdict__" : Str)) = false := by decide) (hbase : attributeBase (.Name x px) "append" X.env (eval (.Name x px) X.env) = eval (.Name x px) X.env := by rfl)
    (hfew : ((backTo cpos (starEach [e] X.env)).all (fun x => !x.1) && (backToKw cpos (keywordEach [] X.env)).all (fun x => x.1.isSome) && decide ([e].length + ([] : List Keyword).length + (if ([] : List Keyword).isEmpty then 0 else 1) < 30)) = true := by rfl)
    (hline : (apos.endLine == cpos.line) = true := by rfl) (hs : starEach [e] X.env = (false, eval e X.env) :: starEach [] X.env := by rfl) (hplain : (backTo cpos (starEach [] X.env)).any (·.1) = false := by rfl) :
    DE X (.Call (.Attribute (.Name x px) "append" apos) [e] [] cpos) (dApp i F) :=
  PE.by (pe_bm PySem.F.plainAttrs_list PySem.F.slot_list_append PySem.F.type_list_append mt_append (pe_var hN hv hd hcd) (pa_cons ha pa_nil hs) hbase hfew hline hs hplain) fun σ H Q h => by
    obtain ⟨G, δ, r, δ', R, e, q⟩ := h
    obtain ⟨u, e0, e⟩ := bind_some_of e
    obtain ⟨⟨r1, δ1⟩, e1, e⟩ := bind_some_of e
    obtain ⟨d, e2, e⟩ := bind_some_of e
    obtain ⟨ds, e3, e⟩ := bind_some_of e
    obtain ⟨hc, e⟩ := of_ite e
    cases e
    split at e0
    · rename_i ds0 hd0
      obtain ⟨p0, ws0, k1, k2, _⟩ := R.ow hd0
      refine ⟨_, k1, .inl ⟨rfl, _, SqL.of k2⟩, tD_run R e1 fun w G1 H1 R1 st1 rv => ?_⟩
      obtain ⟨G2, R2, st2, _, rp⟩ := RV.shared R1 st1 rv e2
      split at e3
      · rename_i ds1 hd1
        cases e3
        obtain ⟨p1, ws1, j1, j2, _, ra⟩ := R2.ow hd1
        rw [k1] at j1; cases j1
        obtain ⟨R3, st3⟩ := R2.write (ws := ws1 ++ [w]) hd1 k1 (ra.append (.cons rp .nil))
        exact ⟨p0, ws1, w, rfl, rfl, j2, by rw [ra.length]; exact hc, q .non _ _ R3 (st2.trans st3) .non⟩
      · cases e3
    · cases e0
/-- x.extend(e) -/
def dExt (i : Nat) (F : Ex) : Ex := fun δ => (match δ[i]? with | some (.bx .l _) => some () | _ => none).bind fun _ => (F δ).bind fun x => x.1.sh.bind fun d => (match d with | .list es => some es | _ => none).bind fun es =>
  (match x.2[i]? with | some (.bx .l ds) => some ds | _ => none).bind fun ds => if ds.length + es.length ≤ LINE then some (.im .none, x.2.set i (.bx .l (ds ++ es))) else none
theorem de_ext (i : Nat) {px : Pos} (ha : DE X e F) (hN : X.N[i]? = some x := by rfl) (hv : Vis X.env.scope x := by first | exact Or.inl rfl | exact Or.inr (Or.inl rfl) | exact Or.inr (Or.inr rfl)) (hd : (x == ("__debug__" : Str)) = false := by decide)
    (hcd : (x == ("__classdict__" : Str)) = false := by decide) (hbase : attributeBase (.Name x px) "extend" X.env (eval (.Name x px) X.env) = eval (.Name x px) X.env := by rfl)
    (hfew : ((backTo cpos (starEach [e] X.env)).all (fun x => !x.1) && (backToKw cpos (keywordEach [] X.env)).all (fun x => x.1.isSome) && decide ([e].length + ([] : List Keyword).length + (if ([] : List Keyword).isEmpty then 0 else 1) < 30)) = true := by rfl)
    (hline : (apos.endLine == cpos.line) = true := by rfl) (hs : starEach [e] X.env = (false, eval e X.env) :: starEach [] X.env := by rfl) (hplain : (backTo cpos (starEach [] X.env)).any (·.1) = false := by rfl) :
    DE X (.Call (.Attribute (.Name x px) "extend" apos) [e] [] cpos) (dExt i F) :=
  PE.by (pe_bm PySem.F.plainAttrs_list PySem.F.slot_list_extend PySem.F.type_list_extend mt_extend (pe_var hN hv hd hcd) (pa_cons ha pa_nil hs) hbase hfew hline hs hplain) fun σ H Q h => by
    obtain ⟨G, δ, r, δ', R, e, q⟩ := h
    obtain ⟨u, e0, e⟩ := bind_some_of e
    obtain ⟨⟨r1, δ1⟩, e1, e⟩ := bind_some_of e
    obtain ⟨d, e2, e⟩ := bind_some_of e
    obtain ⟨es, e4, e⟩ := bind_some_of e
    obtain ⟨ds, e3, e⟩ := bind_some_of e
    obtain ⟨hc, e⟩ := of_ite e
    cases e
    split at e0
    · rename_i ds0 hd0
      obtain ⟨p0, ws0, k1, k2, _⟩ := R.ow hd0
      refine ⟨_, k1, .inl ⟨rfl, _, SqL.of k2⟩, tD_run R e1 fun w G1 H1 R1 st1 rv => ?_⟩
      obtain ⟨G2, R2, st2, _, rp⟩ := RV.shared R1 st1 rv e2
      split at e4
      · cases e4
        split at e3
        · rename_i ds1 hd1
          cases e3
          obtain ⟨p1, ws1, j1, j2, _, ra⟩ := R2.ow hd1
          rw [k1] at j1; cases j1
          cases rp with
          | lst hl rb =>
            obtain ⟨R3, st3⟩ := R2.write (ws := ws1 ++ _) hd1 k1 (ra.append rb)
            exact ⟨p0, _, ws1, _, rfl, rfl, j2, R2.sub _ _ hl, by rw [ra.length, rb.length]; exact hc, q .non _ _ R3 (st2.trans st3) .non⟩
        · cases e3
      · cases e4
    · cases e0
/-- x[i] = e -/
def sSto (i : Nat) (Fi F : Ex) : Sm := fun δ => (F δ).bind fun x => x.1.sh.bind fun d => (match x.2[i]? with | some (.bx .l _) => some () | _ => none).bind fun _ => (Fi x.2).bind fun y => (intOf y.1).bind fun j =>
  (match y.2[i]? with | some (.bx .l ds) => some ds | _ => none).bind fun ds => (ixN ds.length j).bind fun k => some (.nx, y.2.set i (.bx .l (ds.set k d)))
theorem ds_sto (i : Nat) {px tpos : Pos} (hv1 : DE X v F) (hi1 : DE X b Fi) (hN : X.N[i]? = some x := by rfl) (hv : Vis X.env.scope x := by first | exact Or.inl rfl | exact Or.inr (Or.inl rfl) | exact Or.inr (Or.inr rfl)) (hd : (x == ("__debug__" : Str)) = false := by decide)
    (hcd : (x == ("__classdict__" : Str)) = false := by decide)
    (has : ∀ v, assign (.Subscript (.Name x px) b tpos) X.env v = (do
      let ov ← holding [v] (eval (.Name x px) X.env)
      let iv ← holding [v, ov] (eval b X.env)
      standAt tpos
      holding [v, ov, iv] (setItem ov iv v)
      release [v, ov, iv] []) := by intro _; rfl)
    (hs : swapsWithSole [.Subscript (.Name x px) b tpos] v pos.line X.env = pure false := by rfl) (hw : swappedStores [.Subscript (.Name x px) b tpos] v X.env = pure none := by rfl)
    (h1 : (assignEach [.Subscript (.Name x px) b tpos] X.env).map (·.2) = [assign (.Subscript (.Name x px) b tpos) X.env] := by rfl) :
    DS X P (.Assign [.Subscript (.Name x px) b tpos] v pos) (sSto i Fi F) :=
  PS.by (ps_asg hv1 (pg_sub (pe_var hN hv hd hcd) hi1 set_list has) hs hw h1) fun D σ H h => by
    obtain ⟨G, δ, fl, δ', R, e, q⟩ := h
    obtain ⟨⟨r1, δ1⟩, e1, e⟩ := bind_some_of e
    obtain ⟨d, e2, e⟩ := bind_some_of e
    obtain ⟨u, e0, e⟩ := bind_some_of e
    obtain ⟨⟨r3, δ3⟩, e3, e⟩ := bind_some_of e
    obtain ⟨j, e4, e⟩ := bind_some_of e
    obtain ⟨ds, e5, e⟩ := bind_some_of e
    obtain ⟨k, e6, e⟩ := bind_some_of e
    cases e
    refine tD_run R e1 fun w G1 H1 R1 st1 rv => ?_
    obtain ⟨G2, R2, st2, _, rp⟩ := RV.shared R1 st1 rv e2
    split at e0
    · rename_i ds0 hd0
      obtain ⟨p0, ws0, k1, k2, _⟩ := R2.ow hd0
      refine ⟨_, k1, tD_run R2 e3 fun w3 G3 H3 R3 st3 rv3 => ?_⟩
      split at e5
      · rename_i ds1 hd1
        cases e5
        obtain ⟨p1, ws1, j1, j2, _, ra⟩ := R3.ow hd1
        rw [k1] at j1; cases j1
        obtain ⟨R4, st4⟩ := R3.write (ws := ws1.set k w) hd1 k1 ((ra.set (rp.same st3.same) k))
        exact ⟨p0, ws1, j, k, rfl, int_rv rv3 e4, j2, by rw [ra.length]; exact e6, q σ _ _ R4 ((st2.trans st3).trans st4) Pin.refl⟩
      · cases e5
    · cases e0
/-- x op= e of ints -/
def sAug (i : Nat) (g : Int → Int → Int) (F : Ex) : Sm := fun δ => (match δ[i]? with | some (.im (.int n)) => some n | _ => none).bind fun n => (F δ).bind fun x => (intOf x.1).bind fun m => some (.nx, x.2.set i (.im (.int (g n m))))
theorem ds_aug {i : Nat} {op : Operator} {g : Int → Int → Int} {px : Pos} (hN : X.N.Nodup) (hi : X.N[i]? = some x) (hx : Loc X.env.scope x) (he : DE X e F) (ho : PIp X op (ipI g)) (hp : P.contains i = false := by rfl)
    (hf : X.fn x = true ∨ X.env.scope.names.lookup x = some .local := by first | exact .inl rfl | exact .inr rfl | assumption) : DS X P (.AugAssign (.Name x px) op e pos) (sAug i g F) :=
  PS.by (ps_aug hN hi hx he ho hf) fun D σ H h => by
    obtain ⟨G, δ, fl, δ', R, e, q⟩ := h
    obtain ⟨n, e0, e⟩ := bind_some_of e
    obtain ⟨⟨r1, δ1⟩, e1, e⟩ := bind_some_of e
    obtain ⟨m, e2, e⟩ := bind_some_of e
    cases e
    split at e0
    · rename_i n' hd0
      cases e0
      obtain ⟨v, k1, k2⟩ := R.im hd0
      cases k2
      refine ⟨_, k1, tD_run R e1 fun w G1 H1 R1 st1 rv => ⟨n, m, rfl, int_rv rv e2, ?_⟩⟩
      exact q _ G1 H1 (R1.set (s := .im (.int (g n m))) ⟨_, rfl, .int _⟩ fun _ _ _ e => nomatch e) (Stp.setR R1 st1 fun _ _ _ e => nomatch e) (Pin.set hp)
    · cases e0
/-- a < b < c of ints -/
def dCh (f g : Int → Int → Bool) (a b c : Ex) : Ex := fun δ => (a δ).bind fun x => (intOf x.1).bind fun i => (b x.2).bind fun y => (intOf y.1).bind fun j => if f i j = true then (c y.2).bind fun z => (intOf z.1).bind fun k => some (.im (.bool (g j k)), z.2) else some (.im (.bool false), y.2)
variable {Fa Fb Fc : Ex}
theorem ch_go {K : PySem.W.Frag} {f g : Int → Int → Bool} {σ : SS} {H : Hp} {Q : VK} (h : tD K (dCh f g Fa Fb Fc) σ H Q) : tChain (rI0 fun i j => .bl (f i j)) (rI0 fun i j => .bl (g i j)) (tD K Fa) (tD K Fb) (tD K Fc) σ H Q := by
  obtain ⟨G, δ, r, δ', R, e, q⟩ := h
  obtain ⟨⟨r1, δ1⟩, e1, e⟩ := bind_some_of e
  obtain ⟨i, e2, e⟩ := bind_some_of e
  obtain ⟨⟨r3, δ3⟩, e3, e⟩ := bind_some_of e
  obtain ⟨j, e4, e⟩ := bind_some_of e
  refine tD_run R e1 fun v G1 H1 R1 st1 rv => tD_run R1 e3 fun w G2 H2 R2 st2 rv2 => ⟨i, j, int_rv rv e2, int_rv rv2 e4, f i j, rfl, ?_⟩
  by_cases hc : f i j = true
  · rw [if_pos hc] at e ⊢
    obtain ⟨⟨r5, δ5⟩, e5, e⟩ := bind_some_of e
    obtain ⟨k, e6, e⟩ := bind_some_of e
    cases e
    exact tD_run R2 e5 fun u G3 H3 R3 st3 rv3 => ⟨j, k, int_rv rv2 e4, int_rv rv3 e6, q _ G3 H3 R3 ((st1.trans st2).trans st3) (.bl _)⟩
  · rw [if_neg hc] at e ⊢
    cases e
    exact q _ G2 H2 R2 (st1.trans st2) (.bl false)
theorem de_ch {op op' : CmpOp} {f g : Int → Int → Bool} (ho : OpR X (compareOp op) (rI0 fun i j => .bl (f i j))) (ho' : OpR X (compareOp op') (rI0 fun i j => .bl (g i j))) (ha : DE X a Fa) (hb : DE X b Fb) (hc : DE X c Fc)
    (hm : lastMarks [op, op'] [b, c] = false := by with_unfolding_all rfl) : DE X (.Compare a [op, op'] [b, c] pos) (dCh f g Fa Fb Fc) :=
  PE.by (pe_chain ho ho' ha hb hc hm) fun σ H Q h => ch_go h
theorem dt_ch {op op' : CmpOp} {f g : Int → Int → Bool} (ho : OpR X (compareOp op) (rI0 fun i j => .bl (f i j))) (ho' : OpR X (compareOp op') (rI0 fun i j => .bl (g i j))) (ha : DE X a Fa) (hb : DE X b Fb) (hc : DE X c Fc)
    (hm : lastMarks [op, op'] [b, c] = false := by with_unfolding_all rfl) : DT X (.Compare a [op, op'] [b, c] pos) (tOfE (dCh f g Fa Fb Fc)) := by
  refine PT.by (pt_chain ho ho' ha hb hc hm) fun σ H Q h => ?_
  obtain ⟨G, δ, b, δ', R, e, q⟩ := h
  obtain ⟨⟨r1, δ1⟩, e1, e⟩ := bind_some_of e
  obtain ⟨b1, e2, e⟩ := bind_some_of e
  cases e
  exact ch_go (tD_run R e1 (Q := fun x H' => ∃ k, x = .bl k ∧ Q k H') fun v G' H' R' st rv => ⟨b, bool_rv rv e2, q G' H' R' st⟩)
/-- len of a list that is only read -/
def dLenF (i : Nat) : Ex := fun δ => match δ[i]? with | some (.fz ds) => some (.im (.int ds.length), δ) | _ => none
theorem de_lenF (i : Nat) {px : Pos} (hg : Gl X "len") (hm : X.mg "len" = none) (hN : X.N[i]? = some x := by rfl) (hv : Vis X.env.scope x := by first | exact Or.inl rfl | exact Or.inr (Or.inl rfl) | exact Or.inr (Or.inr rfl)) (hd : (x == ("__debug__" : Str)) = false := by decide)
    (hcd : (x == ("__classdict__" : Str)) = false := by decide) (hs : starEach [.Name x px] X.env = (false, eval (.Name x px) X.env) :: starEach [] X.env := by rfl) (hpl : (backTo pos (starEach [] X.env)).any (·.1) = false := by rfl) :
    DE X (.Call (.Name "len" p) [.Name x px] [] pos) (dLenF i) :=
  PE.by (pe_callB call_len_seq hg hm PySem.boot_len (pa_cons (pe_var hN hv hd hcd) pa_nil hs) (he := hs) (hpl := hpl)) fun σ H Q h => by
    obtain ⟨G, δ, r, δ', R, e, q⟩ := h
    unfold dLenF at e
    split at e
    · rename_i ds hd
      cases e
      obtain ⟨p, ws, h1, h2, ra⟩ := R.fz hd
      exact ⟨_, h1, p, ws, rfl, .inl (Same.seq R.sub h2), by rw [ra.length]; exact q _ G H R Stp.refl (.int _)⟩
    · cases e
/-- a slice of such -/
def dSlF (i : Nat) (lo hi : Option Ex) : Ex := fun δ => (match δ[i]? with | some (.fz ds) => some ds | _ => none).bind fun ds => (prt lo δ).bind fun l => (prt hi l.2).bind fun h => some (.bx .l (cutD ds l.1 h.1), h.2)
theorem de_slF (i : Nat) {lo hi : Option Expr} {fl fh : Option Ex} {p2 px : Pos} (hl : DP X lo fl) (hh : DP X hi fh) (hN : X.N[i]? = some x := by rfl) (hv : Vis X.env.scope x := by first | exact Or.inl rfl | exact Or.inr (Or.inl rfl) | exact Or.inr (Or.inr rfl)) (hd : (x == ("__debug__" : Str)) = false := by decide)
    (hcd : (x == ("__classdict__" : Str)) = false := by decide) : DE X (.Subscript (.Name x px) (.Slice lo hi none p2) pos) (dSlF i fl fh) :=
  PE.by (pe_slice sl_list (pe_var hN hv hd hcd) hl.po hh.po) fun σ H Q h => by
    obtain ⟨G, δ, r, δ', R, e, q⟩ := h
    obtain ⟨ds, e0, e⟩ := bind_some_of e
    obtain ⟨⟨l, δ2⟩, e2, e⟩ := bind_some_of e
    obtain ⟨⟨u, δ3⟩, e3, e⟩ := bind_some_of e
    cases e
    split at e0
    · rename_i ds' hd
      cases e0
      obtain ⟨p, ws, h1, h2, ra⟩ := R.fz hd
      refine ⟨_, h1, prt_run R e2 fun G2 H2 R2 st2 => prt_run R2 e3 fun G3 H3 R3 st3 => ?_⟩
      have stA := st2.trans st3
      refine ⟨p, ws, rfl, Same.seq (stA.same.trans R3.sub) h2, fun t ht => ?_⟩
      exact q _ G3 _ (R3.new ht) (stA.trans (Stp.new ht)) ⟨t, _, rfl, upd_same, gfree R3.sub ht, R3.freeOwn ht, stA.dom t ht, cut_rp (ra.same stA.same)⟩
    · cases e0
end
end CK
/-! isinstance against built-in classes; a def as it stands behind the top -/
namespace CK
open PySem PySem.Spec PyProof.Rows L2
variable [Memo]

/-- the class of data -/
def clsD : PyData → Option String
  | .none => some "NoneType"
  | .bool _ => some "bool"
  | .int _ => some "int"
  | .str _ => some "str"
  | .list _ => some "list"
  | .tuple _ => some "tuple"
  | .dict _ => none
def kinD (t T : String) : Bool := t == T || (t == "bool" && T == "int")
def isiD (T : String) (d : PyData) : Option Sl := (clsD d).bind fun t => bD (kinD t T)
theorem RT.ty {K : PySem.W.Frag} {G H : Hp} {v : V} {d : PyData} {t : String} (s : Same G H) (h : RT K G H v d) (e : clsD d = some t) : TyX K H v (.type t) := by
  cases d with
  | none => cases e; rw [h.non]; exact .base .non
  | bool b => cases e; rw [h.bl]; exact .base (.bl b)
  | int i => cases e; rw [h.int]; exact .base (.int i)
  | str i => cases e; rw [h.str]; exact .base (.str i)
  | list ds =>
    cases e
    obtain ⟨p, ws, rfl, h1, _⟩ := h.lst s
    exact .base (.lst h1)
  | tuple ds =>
    cases e
    obtain ⟨p, ws, rfl, h1, _⟩ := h.tup s
    rcases h1 with (h1 | ⟨o, h1⟩) | ⟨o, its, n, h1, h2, _⟩
    · exact .base (.tup h1)
    · exact .fTuple h1
    · exact .kTuple h1 h2
  | dict _ => cases e
section
variable {X : Cx} {a : Expr} {oa : Od} {pos p p2 : Pos} {x T : Str}
theorem de_isi {T : Str} {t : String} (hk : ∀ s, s = "NoneType" ∨ s = "bool" ∨ s = "int" ∨ s = "str" ∨ s = "list" ∨ s = "tuple" → PySem.W.kitOne X.K (.type s) (.type t) = some (kinD s t)) (hg : Gl X "isinstance") (hm : X.mg "isinstance" = none) (hg2 : Gl X T) (hm2 : X.mg T = none)
    (hv2 : bootBuiltins T = some (.type t)) (ha : DO X a oa) (hn : T ≠ "__name__" := by decide) (hdb : (T == ("__debug__" : Str)) = false := by decide)
    (hs : starEach [a, .Name T p2] X.env = (false, eval a X.env) :: starEach [.Name T p2] X.env := by rfl) (hs2 : starEach [.Name T p2] X.env = (false, eval (.Name T p2) X.env) :: starEach [] X.env := by rfl)
    (hpl : (backTo pos (starEach [.Name T p2] X.env)).any (·.1) = false := by rfl) : DE X (.Call (.Name "isinstance" p) [a, .Name T p2] [] pos) (dOp1 (isiD t) oa) :=
  PE.by (pe_callB call_isi hg hm (by decide +kernel) (pa_cons ha.pe (pa_cons (pe_bltn (v := .ty t) hg2 hm2 hv2 rfl hn hdb) pa_nil hs2) hs) (he := hs) (hpl := hpl)) fun σ H Q h =>
    od1 (T := fun v H1 => rIsi X.K [v, .ty t] H1 Q) h fun G H1 δ v d z R r1 e3 q => by
      obtain ⟨s, e4, e5⟩ := bind_some_of e3
      cases e5
      refine ⟨v, .ty t, _, _, kinD s t, rfl, .ty t, r1.ty R.sub e4, hk s ?_, Want.bl q R⟩
      cases d <;> cases e4 <;> simp
end
theorem kit_int {K : PySem.W.Frag} : ∀ s, s = "NoneType" ∨ s = "bool" ∨ s = "int" ∨ s = "str" ∨ s = "list" ∨ s = "tuple" → PySem.W.kitOne K (.type s) (.type "int") = some (kinD s "int") := by
  rintro s (rfl | rfl | rfl | rfl | rfl | rfl) <;> exact kit_ty (by decide +kernel)
theorem kit_bool {K : PySem.W.Frag} : ∀ s, s = "NoneType" ∨ s = "bool" ∨ s = "int" ∨ s = "str" ∨ s = "list" ∨ s = "tuple" → PySem.W.kitOne K (.type s) (.type "bool") = some (kinD s "bool") := by
  rintro s (rfl | rfl | rfl | rfl | rfl | rfl) <;> exact kit_ty (by decide +kernel)
theorem kit_str {K : PySem.W.Frag} : ∀ s, s = "NoneType" ∨ s = "bool" ∨ s = "int" ∨ s = "str" ∨ s = "list" ∨ s = "tuple" → PySem.W.kitOne K (.type s) (.type "str") = some (kinD s "str") := by
  rintro s (rfl | rfl | rfl | rfl | rfl | rfl) <;> exact kit_ty (by decide +kernel)
theorem kit_list {K : PySem.W.Frag} : ∀ s, s = "NoneType" ∨ s = "bool" ∨ s = "int" ∨ s = "str" ∨ s = "list" ∨ s = "tuple" → PySem.W.kitOne K (.type s) (.type "list") = some (kinD s "list") := by
  rintro s (rfl | rfl | rfl | rfl | rfl | rfl) <;> exact kit_ty (by decide +kernel)
theorem kit_tuple {K : PySem.W.Frag} : ∀ s, s = "NoneType" ∨ s = "bool" ∨ s = "int" ∨ s = "str" ∨ s = "list" ∨ s = "tuple" → PySem.W.kitOne K (.type s) (.type "tuple") = some (kinD s "tuple") := by
  rintro s (rfl | rfl | rfl | rfl | rfl | rfl) <;> exact kit_ty (by decide +kernel)

theorem room128 {k : Nat} {A : Around} (r : Room k A) : A.units + 128 < cLine := by have := r.un; omega
/-- a def of the top: where it stands, what it is, how it is called -/
structure Ent (K : PySem.W.Frag) (mg : Str → Option Value) (x : Str) (st : Stmt) (ps : List Str) where
  f : Addr
  fd : FuncData
  fn : Fun K x x st f fd
  mg : mg x = some (.ref f)
  kp : PySem.W.keepIn K (.ref f) = true
  bd : Binds K fd ps []
end CK
/-! lists of one's own, lent for reading -/
namespace CK
open PySem PySem.Spec PyProof.Rows L2
variable [Memo]
mutual
def nolD : PyData → Bool
  | .list _ => false
  | .dict _ => false
  | .tuple ds => nolAll ds
  | _ => true
def nolAll : List PyData → Bool
  | [] => true
  | d :: ds => nolD d && nolAll ds
end
def nolR : Sl → Bool
  | .im d => nolD d
  | .bx .l ds => nolAll ds
  | _ => false
def frz1 (i : Nat) (δ : List Sl) : List Sl := match δ[i]? with
  | some (.bx .l ds) => δ.set i (.im (.list ds))
  | _ => δ
def lendIn : List Nat → List Sl → List Sl
  | [], δ => δ
  | i :: is, δ => lendIn is (frz1 i δ)
def unl2 : Sl → Option Sl
  | .bx .l es => if nolAll es = true then some (.bx .l es) else none
  | .im (.list es) => if nolAll es = true then some (.im (.list es)) else none
  | _ => none
def unl1 (b : Bool) : Sl → Sl → Option Sl
  | .bx .l ds, x => if b = true then some (.bx .l ds) else unl2 x
  | .bx (.o _) _, _ => none
  | .bx (.d _) _, _ => none
  | .mo _, _ => none
  | s, _ => some s
def unl (is : List Nat) : Nat → List Sl → List Sl → Option (List Sl)
  | _, [], [] => some []
  | k, a :: as, b :: bs => (unl1 (is.contains k) a b).bind fun s => (unl is (k + 1) as bs).bind fun r => some (s :: r)
  | _, _, _ => none
def dLend (is : List Nat) (F : Ex) : Ex := fun δ => (F (lendIn is δ)).bind fun x => if nolR x.1 = true then (unl is 0 δ x.2).bind fun δn => some (x.1, δn) else none
section
variable {K : PySem.W.Frag} {G G' H : Hp}
theorem sqT_nol (s : ∀ a u, G a = some u → (∀ ws, u ≠ .lst ws) → G' a = some u) {a : Addr} {xs : List V} (h : SqT K G a xs) : SqT K G' a xs := by
  rcases h with (h | ⟨o, h⟩) | h
  · exact .inl (.inl (s _ _ h fun _ e => nomatch e))
  · exact .inl (.inr ⟨o, s _ _ h fun _ e => nomatch e⟩)
  · exact .inr h
mutual
theorem Rp.nol (s : ∀ a u, G a = some u → (∀ ws, u ≠ .lst ws) → G' a = some u) : ∀ {d : PyData} {v : V}, Rp K G v d → nolD d = true → Rp K G' v d
  | .none, _, h, _ => by cases h; exact .non
  | .bool b, _, h, _ => by cases h; exact .bl b
  | .int i, _, h, _ => by cases h; exact .int i
  | .str x, _, h, _ => by cases h; exact .str x
  | .list ds, _, _, f => by simp [nolD] at f
  | .tuple ds, _, h, f => by cases h with | tup e r => exact .tup (sqT_nol s e) (RpAll.nol s r (by simpa only [nolD] using f))
  | .dict _, _, _, f => by simp [nolD] at f
theorem RpAll.nol (s : ∀ a u, G a = some u → (∀ ws, u ≠ .lst ws) → G' a = some u) : ∀ {ds : List PyData} {vs : List V}, RpAll K G vs ds → nolAll ds = true → RpAll K G' vs ds
  | [], _, h, _ => by cases h; exact .nil
  | d :: ds, _, h, f => by
    cases h with
    | cons a b =>
      simp only [nolAll, Bool.and_eq_true] at f
      exact .cons (Rp.nol s a f.1) (RpAll.nol s b f.2)
end
theorem frz1_get {i j : Nat} {δ : List Sl} : (frz1 i δ)[j]? = if i = j then (match δ[j]? with | some (.bx .l ds) => some (.im (.list ds)) | o => o) else δ[j]? := by
  unfold frz1
  split
  · rename_i ds hd
    by_cases h : i = j
    · subst h
      rw [if_pos rfl, List.getElem?_set_self (List.getElem?_eq_some_iff.mp hd).1, hd]
    · rw [if_neg h, List.getElem?_set_ne h]
  · rename_i hd
    by_cases h : i = j
    · subst h
      rw [if_pos rfl]
      split
      · rename_i ds hd2; exact absurd hd2 (hd ds)
      · rfl
    · rw [if_neg h]
theorem lendIn_ow : ∀ {is : List Nat} {δ : List Sl} {j : Nat} {ds : List PyData}, (lendIn is δ)[j]? = some (.bx .l ds) → δ[j]? = some (.bx .l ds)
  | [], _, _, _, h => h
  | i :: is, δ, j, ds, h => by
    have h := lendIn_ow (is := is) h
    rw [frz1_get] at h
    split at h
    · split at h
      · cases h
      · exact h
    · exact h
theorem lendIn_im : ∀ {is : List Nat} {δ : List Sl} {j : Nat} {d : PyData}, δ[j]? = some (.im d) → (lendIn is δ)[j]? = some (.im d)
  | [], _, _, _, h => h
  | i :: is, δ, j, d, h => by
    refine lendIn_im (is := is) ?_
    rw [frz1_get, h]
    split <;> rfl
theorem lendIn_mem : ∀ {is : List Nat} {δ : List Sl} {j : Nat} {ds : List PyData}, j ∈ is → δ[j]? = some (.bx .l ds) → (lendIn is δ)[j]? = some (.im (.list ds))
  | i :: is, δ, j, ds, hm, h => by
    by_cases e : i = j
    · refine lendIn_im (is := is) ?_
      rw [frz1_get, if_pos e, h]
    · refine lendIn_mem (is := is) (by cases hm with | head => exact absurd rfl e | tail _ z => exact z) ?_
      rw [frz1_get, if_neg e, h]
theorem Rel.frz1 {σ : SS} {δ : List Sl} (R : Rel K G H σ δ) (i : Nat) : ∃ G1, Rel K G1 H σ (frz1 i δ) ∧ Stp σ δ G H σ (frz1 i δ) G1 H := by
  unfold CK.frz1
  split
  · rename_i ds hd
    obtain ⟨p, ws, _, _, R', _, _, st⟩ := R.freeze hd
    exact ⟨_, R', st⟩
  · exact ⟨G, R, Stp.refl⟩
theorem Rel.lendIn : ∀ (is : List Nat) {G : Hp} {σ : SS} {δ : List Sl}, Rel K G H σ δ → ∃ G1, Rel K G1 H σ (lendIn is δ) ∧ Stp σ δ G H σ (CK.lendIn is δ) G1 H
  | [], G, _, _, R => ⟨G, R, Stp.refl⟩
  | i :: is, _, _, _, R => by
    obtain ⟨G1, R1, s1⟩ := R.frz1 i
    obtain ⟨G2, R2, s2⟩ := Rel.lendIn is R1
    exact ⟨G2, R2, s1.trans s2⟩
theorem unl_get {is : List Nat} : ∀ {k : Nat} {δ δ1 δn : List Sl}, unl is k δ δ1 = some δn → δn.length = δ.length ∧ ∀ (i : Nat) (s : Sl), δn[i]? = some s →
    (δ[i]? = some s ∧ (∀ t x, s ≠ .bx t x) ∧ ∀ x, s ≠ .mo x) ∨ (∃ ds, δ[i]? = some (.bx .l ds) ∧ k + i ∈ is ∧ s = .bx .l ds) ∨ (∃ ds es, δ[i]? = some (.bx .l ds) ∧ ¬ (k + i ∈ is) ∧ nolAll es = true ∧ ((s = .bx .l es ∧ δ1[i]? = some (.bx .l es)) ∨ (s = .im (.list es) ∧ δ1[i]? = some (.im (.list es)))))
  | _, [], [], δn, h => by cases h; exact ⟨rfl, fun i s e => by simp at e⟩
  | _, [], _ :: _, δn, h => by cases h
  | _, _ :: _, [], δn, h => by cases h
  | k, a :: as, b :: bs, δn, h => by
    obtain ⟨s0, e0, h⟩ := bind_some_of h
    obtain ⟨r, e1, h⟩ := bind_some_of h
    cases h
    obtain ⟨hl, ih⟩ := unl_get e1
    refine ⟨by simp [hl], fun i s e => ?_⟩
    cases i with
    | succ i =>
      have := ih i s (by simpa using e)
      rw [show k + 1 + i = k + (i + 1) by omega] at this
      simpa using this
    | zero =>
      have : s0 = s := by simpa using e
      subst this
      rw [Nat.add_zero]
      cases a with
      | bx t ds =>
        cases t with
        | o fs => cases e0
        | d ks => cases e0
        | l =>
        by_cases hb : is.contains k = true
        · have e0 : (if is.contains k = true then some (Sl.bx .l ds) else unl2 b) = some s0 := e0
          rw [if_pos hb] at e0; cases e0
          exact .inr (.inl ⟨ds, rfl, by rw [List.contains_eq_mem] at hb; exact of_decide_eq_true hb, rfl⟩)
        · have e0 : (if is.contains k = true then some (Sl.bx .l ds) else unl2 b) = some s0 := e0
          rw [if_neg hb] at e0
          have hm : ¬ k ∈ is := fun z => hb (by rw [List.contains_eq_mem]; exact decide_eq_true z)
          unfold unl2 at e0
          split at e0
          · obtain ⟨hc, rfl⟩ := of_ite e0; exact .inr (.inr ⟨_, _, rfl, hm, hc, .inl ⟨rfl, rfl⟩⟩)
          · obtain ⟨hc, rfl⟩ := of_ite e0; exact .inr (.inr ⟨_, _, rfl, hm, hc, .inr ⟨rfl, rfl⟩⟩)
          · cases e0
      | no => cases e0; exact .inl ⟨rfl, (fun _ _ z => nomatch z), fun _ z => nomatch z⟩
      | im d => cases e0; exact .inl ⟨rfl, (fun _ _ z => nomatch z), fun _ z => nomatch z⟩
      | fz d => cases e0; exact .inl ⟨rfl, (fun _ _ z => nomatch z), fun _ z => nomatch z⟩
      | raw d => cases e0; exact .inl ⟨rfl, (fun _ _ z => nomatch z), fun _ z => nomatch z⟩
      | mo d => cases e0
open Classical in
theorem lend_go [mm : Memo] [Triv mm] {is : List Nat} {F : Ex} {σ : SS} {H : Hp} {Q : VK} (h : tD K (dLend is F) σ H Q) : tD K F σ H Q := by
  obtain ⟨G, δ, r, δn, R, e, q⟩ := h
  obtain ⟨⟨ra, δ1⟩, e1, e⟩ := bind_some_of e
  obtain ⟨hr, e⟩ := of_ite0 e
  obtain ⟨δn', hu, e⟩ := bind_some_of e
  cases e
  obtain ⟨G1, R1, st1⟩ := R.lendIn is
  refine ⟨G1, _, ra, δ1, R1, e1, fun v G' H' R' st rv => ?_⟩
  obtain ⟨hn, hg⟩ := unl_get hu
  let Lp : Addr → Prop := fun a => ∃ i ds, i ∈ is ∧ σ[i]? = some (some (.ref a)) ∧ δ[i]? = some (.bx .l ds)
  let G2 : Hp := fun a => if Lp a then none else G' a
  have g2n : ∀ {a : Addr}, ¬ Lp a → G2 a = G' a := fun h => if_neg h
  have g2l : ∀ {a : Addr}, Lp a → G2 a = none := fun h => if_pos h
  have lp1 : ∀ {a : Addr}, Lp a → (∃ ws, G' a = some (.lst ws) ∧ H a = some (.lst ws)) ∧ G a = none := by
    rintro a ⟨i, ds, k1, k2, k3⟩
    obtain ⟨u, m1, m2⟩ := R1.im (lendIn_mem k1 k3)
    rw [k2] at m1; cases m1
    cases m2 with
    | lst n1 n2 =>
      refine ⟨⟨_, st.same _ _ n1, R1.sub _ _ n1⟩, ?_⟩
      obtain ⟨p, ws, z1, _, z2, _⟩ := R.ow k3
      rw [k2] at z1; cases z1; exact z2
  have nol : ∀ a u, G' a = some u → (∀ ws, u ≠ .lst ws) → G2 a = some u := fun a u h1 h2 => by
    rw [g2n]; exact h1
    intro z
    obtain ⟨⟨ws, z1, _⟩, _⟩ := lp1 z
    rw [h1] at z1; cases z1; exact h2 _ rfl
  have sg : Same G G2 := fun a u h1 => by
    rw [g2n]; exact st.same _ _ (st1.same _ _ h1)
    intro z
    rw [(lp1 z).2] at h1; cases h1
  have sub2 : ∀ a u, G2 a = some u → G' a = some u := fun a u h1 => by
    by_cases z : Lp a
    · rw [g2l z] at h1; cases h1
    · rw [g2n z] at h1; exact h1
  have own : ∀ {a : Addr}, Own σ δn a → Own σ δ a := by
    rintro a ⟨i, t, es, k1, k2⟩
    rcases hg i _ k2 with ⟨_, z⟩ | ⟨ds, z, _⟩ | ⟨ds, es', z, _⟩
    · exact absurd rfl (z.1 t es)
    · exact ⟨i, .l, ds, k1, z⟩
    · exact ⟨i, .l, ds, k1, z⟩
  have stA := st1.trans st
  have Rn : Rel K G2 H' σ δn := by
    refine ⟨fun a o ha => R'.sub a o (sub2 a o ha), by rw [hn]; exact R.len, fun i s hs => ?_, fun i j p tt uu ds es k1 k2 k3 k4 => ?_, Triv.all _ _⟩
    · rcases hg i s hs with ⟨z, z2⟩ | ⟨ds, z, hm, rfl⟩ | ⟨ds, es, z, hm, hf, ⟨rfl, hd⟩ | ⟨rfl, hd⟩⟩
      · exact (R.slot i s z).same sg (fun p t ws ds e => absurd e (z2.1 t ds)) fun x p e => absurd e (z2.2 x)
      · rw [Nat.zero_add] at hm
        obtain ⟨p, ws, k1, k2, k3, k4⟩ := R.ow z
        have lp : Lp p := ⟨i, ds, hm, k1, z⟩
        obtain ⟨⟨ws', z1, z2⟩, _⟩ := lp1 lp
        rw [k2] at z2; cases z2
        exact ⟨p, ws, by rw [k1]; rfl, R'.sub _ _ z1, g2l lp, k4.same sg⟩
      · obtain ⟨p, ws, k1, k2, k3, k4⟩ := R'.ow hd
        refine ⟨p, ws, by rw [k1]; rfl, k2, ?_, k4.nol nol hf⟩
        cases hx : G2 p with
        | none => rfl
        | some u => rw [sub2 _ _ hx] at k3; cases k3
      · rw [Nat.zero_add] at hm
        obtain ⟨u, k1, k2⟩ := R'.im hd
        cases k2 with
        | lst n1 n2 =>
          refine ⟨_, by rw [k1]; rfl, .lst ?_ (n2.nol nol hf)⟩
          rw [g2n]; exact n1
          rintro ⟨j, ds', m1, m2, m3⟩
          have := R.inj i j _ .l .l ds ds' k1 z m2 m3
          subst this
          exact hm m1
    · obtain ⟨d1, z1⟩ : ∃ d1, δ[i]? = some (.bx .l d1) := by
        rcases hg i _ k2 with ⟨_, z⟩ | ⟨d1, z, _⟩ | ⟨d1, es', z, _⟩
        · exact absurd rfl (z.1 tt ds)
        · exact ⟨d1, z⟩
        · exact ⟨d1, z⟩
      obtain ⟨d2, z2⟩ : ∃ d2, δ[j]? = some (.bx .l d2) := by
        rcases hg j _ k4 with ⟨_, z⟩ | ⟨d1, z, _⟩ | ⟨d1, es', z, _⟩
        · exact absurd rfl (z.1 uu es)
        · exact ⟨d1, z⟩
        · exact ⟨d1, z⟩
      exact R.inj i j p .l .l d1 d2 k1 z1 k3 z2
  refine q v G2 H' Rn ⟨fun a o ha no => ⟨fun nv => (stA.keep a o ha no).1 nv, fun z => no (own z)⟩, stA.dom, sg, fun a o h => stA.grow a o (sub2 a o h)⟩ ?_
  cases ra with
  | im d => exact Rp.nol nol rv hr
  | bx t ds =>
    cases t with
    | o fs => cases hr
    | d ks => cases hr
    | l =>
    obtain ⟨p, ws, h1, h2, h3, h4, h5, h6⟩ := rv
    refine ⟨p, ws, h1, h2, ?_, fun z => ?_, h5, h6.nol nol hr⟩
    · cases hx : G2 p with
      | none => rfl
      | some u => rw [sub2 _ _ hx] at h3; cases h3
    · obtain ⟨_, t', ws', z'⟩ := R.gOwn (own z)
      exact z'.not h5
  | no => cases hr
  | fz d => cases hr
  | raw d => cases hr
  | mo d => cases hr
theorem de_lend [mm : Memo] [Triv mm] {X : Cx} {e : Expr} {F : Ex} (is : List Nat) (h : DE X e F) : DE X e (dLend is F) := PE.by h fun _ _ _ g => lend_go g
end
end CK
/-! in, not in; list(range); sorted(set); stores in parallel -/
namespace CK
open PySem PySem.Spec PyProof.Rows L2
variable [Memo]

/-! ### in, not in -/
def memD : PyData → PyData → Option Bool
  | d, .list ds => if SeqAt.shaped d = true ∧ SeqAt.shaped (.list ds) = true then some (ds.any fun z => PyData.eqv z d) else none
  | d, .tuple ds => if SeqAt.shaped d = true ∧ SeqAt.shaped (.tuple ds) = true then some (ds.any fun z => PyData.eqv z d) else none
  | _, _ => none
section
variable {X : Cx} {a b e : Expr} {oa ob : Od} {F F1 F2 : Ex} {pos p : Pos}
def rInT (K : PySem.W.Frag) : R2 := fun x y H Q => ∃ d ds, Dp K H x d ∧ Dp K H y (.tuple ds) ∧ SeqAt.shaped d = true ∧ SeqAt.shaped (.tuple ds) = true ∧ Q (.bl (ds.any fun z => PyData.eqv z d)) H
def rNotInT (K : PySem.W.Frag) : R2 := fun x y H Q => ∃ d ds, Dp K H x d ∧ Dp K H y (.tuple ds) ∧ SeqAt.shaped d = true ∧ SeqAt.shaped (.tuple ds) = true ∧ Q (.bl (!ds.any fun z => PyData.eqv z d)) H
theorem lay_tup {ds : List PyData} (h : SeqAt.shaped (.tuple ds) = true) : PyData.canLayAll0 ds = true := SeqAt.canLay_of_shaped h
theorem op_inT (hu : X.A.units + 65 < cLine) : OpR X (compareOp .In) (rInT X.K) := by
  intro pins s σ H x y v u Q I rx ry h
  obtain ⟨d, ds, hd, he, sd, se, q⟩ := h
  obtain ⟨as, r1⟩ := Dp.reads I d x v hd rx
  obtain ⟨bs, r2⟩ := Dp.reads I (.tuple ds) y u he ry
  exact SeqAt.in_tuple_reads r2 r1 (lay_tup se) (SeqAt.canLay_of_shaped sd) (room_in_shaped sd hu) ⟨.bl _, H, I, rfl, q⟩
theorem op_notInT (hu : X.A.units + 65 < cLine) : OpR X (compareOp .NotIn) (rNotInT X.K) := by
  intro pins s σ H x y v u Q I rx ry h
  obtain ⟨d, ds, hd, he, sd, se, q⟩ := h
  obtain ⟨as, r1⟩ := Dp.reads I d x v hd rx
  obtain ⟨bs, r2⟩ := Dp.reads I (.tuple ds) y u he ry
  exact SeqAt.notIn_tuple_reads r2 r1 (lay_tup se) (SeqAt.canLay_of_shaped sd) (room_in_shaped sd hu) ⟨.bl _, H, I, rfl, q⟩
theorem de_in (hu : X.A.units + 128 < cLine) (ha : DO X a oa) (hb : DO X b ob) (hm : behindInMarks .In b = false := by rfl) : DE X (.Compare a [.In] [b] pos) (dOp2 (blD memD) oa ob) := by
  refine de_cmp (OpR.or (op_inD (by omega)) (op_inT (by omega))) hm (fun G H σ δ Q v w d e z R r1 r2 h q => ?_) ha hb
  obtain ⟨c, h', hz⟩ := bind_some_of h
  cases hz
  unfold memD at h'
  split at h'
  · obtain ⟨⟨h1, h2⟩, rfl⟩ := of_ite h'
    exact .inl ⟨_, _, r1.dp R.sub (noDict_shaped h1), r2.dp R.sub (noDict_shaped h2), h1, h2, q.bl R⟩
  · obtain ⟨⟨h1, h2⟩, rfl⟩ := of_ite h'
    exact .inr ⟨_, _, r1.dp R.sub (noDict_shaped h1), r2.dp R.sub (noDict_shaped h2), h1, h2, q.bl R⟩
  · cases h'
theorem de_notIn (hu : X.A.units + 128 < cLine) (ha : DO X a oa) (hb : DO X b ob) (hm : behindInMarks .NotIn b = false := by rfl) : DE X (.Compare a [.NotIn] [b] pos) (dOp2 (nbD memD) oa ob) := by
  refine de_cmp (OpR.or (op_notInD (by omega)) (op_notInT (by omega))) hm (fun G H σ δ Q v w d e z R r1 r2 h q => ?_) ha hb
  obtain ⟨c, h', hz⟩ := bind_some_of h
  cases hz
  unfold memD at h'
  split at h'
  · obtain ⟨⟨h1, h2⟩, rfl⟩ := of_ite h'
    exact .inl ⟨_, _, r1.dp R.sub (noDict_shaped h1), r2.dp R.sub (noDict_shaped h2), h1, h2, q.bl R⟩
  · obtain ⟨⟨h1, h2⟩, rfl⟩ := of_ite h'
    exact .inr ⟨_, _, r1.dp R.sub (noDict_shaped h1), r2.dp R.sub (noDict_shaped h2), h1, h2, q.bl R⟩
  · cases h'
def nmemD (d e : PyData) : Option Bool := (memD d e).bind fun b => some (!b)
theorem dt_in (hu : X.A.units + 128 < cLine) (ha : DO X a oa) (hb : DO X b ob) (hm : behindInMarks .In b = false := by rfl) : DT X (.Compare a [.In] [b] pos) (tOfE (dOp2 (blD memD) oa ob)) :=
  dt_cmp (OpR.or (op_inD (by omega)) (op_inT (by omega))) hm (fun G H σ δ Q v w d e z R r1 r2 h' q => by
    unfold memD at h'
    split at h'
    · obtain ⟨⟨h1, h2⟩, rfl⟩ := of_ite h'
      exact .inl ⟨_, _, r1.dp R.sub (noDict_shaped h1), r2.dp R.sub (noDict_shaped h2), h1, h2, q⟩
    · obtain ⟨⟨h1, h2⟩, rfl⟩ := of_ite h'
      exact .inr ⟨_, _, r1.dp R.sub (noDict_shaped h1), r2.dp R.sub (noDict_shaped h2), h1, h2, q⟩
    · cases h') ha hb
theorem dt_notIn (hu : X.A.units + 128 < cLine) (ha : DO X a oa) (hb : DO X b ob) (hm : behindInMarks .NotIn b = false := by rfl) : DT X (.Compare a [.NotIn] [b] pos) (tOfE (dOp2 (blD nmemD) oa ob)) :=
  dt_cmp (OpR.or (op_notInD (by omega)) (op_notInT (by omega))) hm (fun G H σ δ Q v w d e z R r1 r2 h q => by
    obtain ⟨c, h', hz⟩ := bind_some_of h
    cases hz
    unfold memD at h'
    split at h'
    · obtain ⟨⟨h1, h2⟩, rfl⟩ := of_ite h'
      exact .inl ⟨_, _, r1.dp R.sub (noDict_shaped h1), r2.dp R.sub (noDict_shaped h2), h1, h2, q⟩
    · obtain ⟨⟨h1, h2⟩, rfl⟩ := of_ite h'
      exact .inr ⟨_, _, r1.dp R.sub (noDict_shaped h1), r2.dp R.sub (noDict_shaped h2), h1, h2, q⟩
    · cases h') ha hb
end

/-! ### list(range(..)) -/
def rgD (a b : Int) : List PyData := (List.range (b - a).toNat).map fun i => .int (a + (i : Nat))
section
variable {X : Cx} {a b e : Expr} {F F1 F2 : Ex} {pos p p2 q : Pos}
theorem rg_rp {K : PySem.W.Frag} {H : Hp} (a b : Int) : RpAll K H (rgV a b) (rgD a b) := by
  unfold rgV rgD
  generalize List.range (b - a).toNat = l
  induction l with
  | nil => exact .nil
  | cons x r ih => exact .cons (.int _) ih
def dLR1 (F : Ex) : Ex := fun δ => (F δ).bind fun x => (intOf x.1).bind fun n => if 0 ≤ n ∧ n ≤ LINE then some (.bx .l (rgD 0 n), x.2) else none
def dLR2 (F1 F2 : Ex) : Ex := fun δ => (F1 δ).bind fun x => (intOf x.1).bind fun n => (F2 x.2).bind fun y => (intOf y.1).bind fun m => if 0 ≤ n ∧ n ≤ LINE ∧ 0 ≤ m ∧ m ≤ LINE then some (.bx .l (rgD n m), y.2) else none
theorem de_lr1 (hcl : X.calm = true) (hg : Gl X "list") (hm : X.mg "list" = none) (hg2 : Gl X "range") (hm2 : X.mg "range" = none) (ha : DE X a F)
    (na : starEach [.Call (.Name "range" p2) [a] [] q] X.env = (false, eval (.Call (.Name "range" p2) [a] [] q) X.env) :: starEach [] X.env := by rfl) (na2 : starEach [a] X.env = (false, eval a X.env) :: starEach [] X.env := by rfl) :
    DE X (.Call (.Name "list" p) [.Call (.Name "range" p2) [a] [] q] [] pos) (dLR1 F) :=
  PE.by (pe_listRg hcl hg hm (prg_1 hg2 hm2 ha na2) na) fun σ H Q h => by
    obtain ⟨G, δ, r, δ', R, e, q⟩ := h
    obtain ⟨⟨r1, δ1⟩, e1, e⟩ := bind_some_of e
    obtain ⟨n, e2, e⟩ := bind_some_of e
    obtain ⟨hc, e⟩ := of_ite e
    cases e
    refine tD_run R e1 fun v G1 H1 R1 st1 rv => ⟨n, int_rv rv e2, RgOk.of_le (by omega) (by have := hc.2; unfold LINE at this; omega) (by omega) (by omega), fun t ht => ?_⟩
    exact q _ G1 _ (R1.new ht) (st1.trans (Stp.new ht)) ⟨t, _, rfl, upd_same, gfree R1.sub ht, R1.freeOwn ht, st1.dom t ht, rg_rp 0 n⟩
theorem de_lr2 (hcl : X.calm = true) (hg : Gl X "list") (hm : X.mg "list" = none) (hg2 : Gl X "range") (hm2 : X.mg "range" = none) (ha : DE X a F1) (hb : DE X b F2)
    (na : starEach [.Call (.Name "range" p2) [a, b] [] q] X.env = (false, eval (.Call (.Name "range" p2) [a, b] [] q) X.env) :: starEach [] X.env := by rfl) (na2 : starEach [a, b] X.env = (false, eval a X.env) :: starEach [b] X.env := by rfl) (nb : starEach [b] X.env = (false, eval b X.env) :: starEach [] X.env := by rfl) (hp : (backTo q (starEach [b] X.env)).any (·.1) = false := by rfl) :
    DE X (.Call (.Name "list" p) [.Call (.Name "range" p2) [a, b] [] q] [] pos) (dLR2 F1 F2) :=
  PE.by (pe_listRg hcl hg hm (prg_2 hg2 hm2 ha hb na2 nb hp) na) fun σ H Q h => by
    obtain ⟨G, δ, r, δ', R, e, q⟩ := h
    obtain ⟨⟨r1, δ1⟩, e1, e⟩ := bind_some_of e
    obtain ⟨n, e2, e⟩ := bind_some_of e
    obtain ⟨⟨r3, δ3⟩, e3, e⟩ := bind_some_of e
    obtain ⟨m, e4, e⟩ := bind_some_of e
    obtain ⟨hc, e⟩ := of_ite e
    cases e
    refine tD_run R e1 fun v G1 H1 R1 st1 rv => tD_run R1 e3 fun w G2 H2 R2 st2 rv2 => ⟨n, m, int_rv rv e2, int_rv rv2 e4, RgOk.of_le (by omega) (by have := hc.2.2.2; unfold LINE at this; omega) (by have := hc.2.1; unfold LINE at this; omega) (by omega), fun t ht => ?_⟩
    have st := st1.trans st2
    exact q _ G2 _ (R2.new ht) (st.trans (Stp.new ht)) ⟨t, _, rfl, upd_same, gfree R2.sub ht, R2.freeOwn ht, st.dom t ht, rg_rp n m⟩
end
/-! ### sorted(set), its result -/
def nubI : List Int → List Int
  | [] => []
  | a :: r => if a ∈ r then nubI r else a :: nubI r
theorem mem_nubI {k : Int} : ∀ {l : List Int}, k ∈ nubI l ↔ k ∈ l
  | [] => Iff.rfl
  | a :: r => by
    unfold nubI
    split
    · rename_i h
      rw [mem_nubI, List.mem_cons]
      exact ⟨.inr, fun z => z.elim (fun e => e ▸ h) id⟩
    · rw [List.mem_cons, List.mem_cons, mem_nubI]
theorem nodup_nubI : ∀ l : List Int, (nubI l).Nodup
  | [] => .nil
  | a :: r => by
    unfold nubI
    split
    · exact nodup_nubI r
    · rename_i h
      exact List.nodup_cons.mpr ⟨fun z => h (mem_nubI.mp z), nodup_nubI r⟩
def usortI (l : List Int) : List Int := sortI (nubI l)
theorem mem_usortI {k : Int} {l : List Int} : k ∈ usortI l ↔ k ∈ l := by
  unfold usortI
  rw [(sortI_perm _).mem_iff, mem_nubI]
theorem usortI_is {l ns : List Int} (h1 : ns.Pairwise (· < ·)) (h2 : ∀ k : Int, k ∈ ns ↔ k ∈ l) : ns = usortI l := by
  have hn : ns.Nodup := h1.imp fun h => Int.ne_of_lt h
  refine sorted_unique (List.Perm.trans ?_ (sortI_perm _).symm) (h1.imp fun h => Int.le_of_lt h) (sortI_sorted _)
  exact (List.perm_ext_iff_of_nodup hn (nodup_nubI l)).mpr fun k => by rw [h2 k, mem_nubI]

def usortD : PyData → Option Sl
  | .list ds => (intsD ds).bind fun ns => if ns.length < 64 then some (.bx .l ((usortI ns).map PyData.int)) else none
  | _ => none
section
variable {X : Cx} {a b c d e : Expr} {Fa Fb Fc Fd F : Ex} {pos p : Pos}
/-- a op b op c op d of ints -/
def dCh3 (f g h : Int → Int → Bool) (a b c d : Ex) : Ex := fun δ => (a δ).bind fun x => (intOf x.1).bind fun i => (b x.2).bind fun y => (intOf y.1).bind fun j => if f i j = true then (c y.2).bind fun z => (intOf z.1).bind fun k => if g j k = true then (d z.2).bind fun u => (intOf u.1).bind fun l => some (.im (.bool (h k l)), u.2) else some (.im (.bool false), z.2) else some (.im (.bool false), y.2)
def tCh3 (r r' r'' : R2) (ta tb tc td : TE) : TE := fun σ H Q => ta σ H fun x H1 => tb σ H1 fun y H2 => r x y H2 fun z H3 => ∃ k, z = .bl k ∧
  (if k = true then tc σ H3 fun w' H4 => r' y w' H4 fun z' H5 => ∃ k', z' = .bl k' ∧ (if k' = true then td σ H5 fun u H6 => r'' w' u H6 Q else Q (.bl false) H5) else Q (.bl false) H3)
theorem pe_ch3 {op op' op'' : CmpOp} {r r' r'' : R2} {ta tb tc td : TE} (ho : OpR X (compareOp op) r) (ho' : OpR X (compareOp op') r') (ho'' : OpR X (compareOp op'') r'') (ha : PE X a ta) (hb : PE X b tb) (hc : PE X c tc) (hd : PE X d td)
    (hm : lastMarks [op, op', op''] [b, c, d] = false := by with_unfolding_all rfl) : PE X (.Compare a [op, op', op''] [b, c, d] pos) (tCh3 r r' r'' ta tb tc td) := by
  refine ⟨fun pins s σ H Q I h => ?_⟩
  refine Compare_chain (thn (ha.run pins s σ H _ I h) fun v s1 ⟨x, H1, I1, r1, q1⟩ => chain_link (thn (hb.run pins s1 σ H1 _ I1 q1) fun u s2 ⟨y, H2, I2, r2, q2⟩ =>
    thn (ho pins s2 σ H2 x y v u _ I2 r1 r2 q2) fun d s3 ⟨z, H3, I3, r3, k, e, q3⟩ => ?_)) hm
  subst e
  cases r3
  refine wpAny_truthy_bool ?_
  cases k with
  | false => exact ite_ff ⟨.bl false, H3, I3, rfl, q3⟩
  | true =>
    refine ite_tt (chain_link (thn (hc.run pins s3 σ H3 _ I3 q3) fun u' s4 ⟨y', H4, I4, r4, q4⟩ => thn (ho' pins s4 σ H4 y y' u u' _ I4 r2 r4 q4) fun d s5 ⟨z, H5, I5, r5, k, e, q5⟩ => ?_))
    subst e
    cases r5
    refine wpAny_truthy_bool ?_
    cases k with
    | false => exact ite_ff ⟨.bl false, H5, I5, rfl, q5⟩
    | true => exact ite_tt (chain_last (thn (hd.run pins s5 σ H5 _ I5 q5) fun w' s6 ⟨z', H6, I6, r6, q6⟩ => ho'' pins s6 σ H6 y' z' u' w' Q I6 r4 r6 q6))
theorem pt_ch3 {op op' op'' : CmpOp} {r r' r'' : R2} {ta tb tc td : TE} (ho : OpR X (compareOp op) r) (ho' : OpR X (compareOp op') r') (ho'' : OpR X (compareOp op'') r'') (ha : PE X a ta) (hb : PE X b tb) (hc : PE X c tc) (hd : PE X d td)
    (hm : lastMarks [op, op', op''] [b, c, d] = false := by with_unfolding_all rfl) : PT X (.Compare a [op, op', op''] [b, c, d] pos) (tTest (tCh3 r r' r'' ta tb tc td)) := by
  refine ⟨fun pins s σ H Q I h => ?_⟩
  refine isTrue_chain (thn (ha.run pins s σ H _ I h) fun v s1 ⟨x, H1, I1, r1, q1⟩ => test_link (thn (hb.run pins s1 σ H1 _ I1 q1) fun u s2 ⟨y, H2, I2, r2, q2⟩ =>
    thn (ho pins s2 σ H2 x y v u _ I2 r1 r2 q2) fun d s3 ⟨z, H3, I3, r3, k, e, q3⟩ => ?_)) hm
  subst e
  cases r3
  refine wpAny_truthy_bool ?_
  cases k with
  | false =>
    obtain ⟨k', e', q'⟩ := q3
    cases e'
    exact ite_ff ⟨H3, I3, q'⟩
  | true =>
    refine ite_tt (test_link (thn (hc.run pins s3 σ H3 _ I3 q3) fun u' s4 ⟨y', H4, I4, r4, q4⟩ => thn (ho' pins s4 σ H4 y y' u u' _ I4 r2 r4 q4) fun d s5 ⟨z, H5, I5, r5, k, e, q5⟩ => ?_))
    subst e
    cases r5
    refine wpAny_truthy_bool ?_
    cases k with
    | false =>
      obtain ⟨k', e', q'⟩ := q5
      cases e'
      exact ite_ff ⟨H5, I5, q'⟩
    | true =>
      refine ite_tt (test_last (thn (hd.run pins s5 σ H5 _ I5 q5) fun w' s6 ⟨z', H6, I6, r6, q6⟩ => thn (ho'' pins s6 σ H6 y' z' u' w' _ I6 r4 r6 q6) fun d s7 ⟨z7, H7, I7, r7, k7, e7, q7⟩ => ?_))
      subst e7
      cases r7
      exact wpAny_truthy_bool ⟨H7, I7, q7⟩
theorem ch3_go {K : PySem.W.Frag} {f g h : Int → Int → Bool} {σ : SS} {H : Hp} {Q : VK} (h' : tD K (dCh3 f g h Fa Fb Fc Fd) σ H Q) : tCh3 (rI0 fun i j => .bl (f i j)) (rI0 fun i j => .bl (g i j)) (rI0 fun i j => .bl (h i j)) (tD K Fa) (tD K Fb) (tD K Fc) (tD K Fd) σ H Q := by
    obtain ⟨G, δ, r, δ', R, e, q⟩ := h'
    obtain ⟨⟨r1, δ1⟩, e1, e⟩ := bind_some_of e
    obtain ⟨i, e2, e⟩ := bind_some_of e
    obtain ⟨⟨r3, δ3⟩, e3, e⟩ := bind_some_of e
    obtain ⟨j, e4, e⟩ := bind_some_of e
    refine tD_run R e1 fun v G1 H1 R1 st1 rv => tD_run R1 e3 fun w G2 H2 R2 st2 rv2 => ⟨i, j, int_rv rv e2, int_rv rv2 e4, f i j, rfl, ?_⟩
    by_cases hc : f i j = true
    · rw [if_pos hc] at e ⊢
      obtain ⟨⟨r5, δ5⟩, e5, e⟩ := bind_some_of e
      obtain ⟨k, e6, e⟩ := bind_some_of e
      refine tD_run R2 e5 fun u G3 H3 R3 st3 rv3 => ⟨j, k, int_rv rv2 e4, int_rv rv3 e6, g j k, rfl, ?_⟩
      by_cases hc2 : g j k = true
      · rw [if_pos hc2] at e ⊢
        obtain ⟨⟨r7, δ7⟩, e7, e⟩ := bind_some_of e
        obtain ⟨l, e8, e⟩ := bind_some_of e
        cases e
        exact tD_run R3 e7 fun u4 G4 H4 R4 st4 rv4 => ⟨k, l, int_rv rv3 e6, int_rv rv4 e8, q _ G4 H4 R4 (((st1.trans st2).trans st3).trans st4) (.bl _)⟩
      · rw [if_neg hc2] at e ⊢
        cases e
        exact q _ G3 H3 R3 ((st1.trans st2).trans st3) (.bl false)
    · rw [if_neg hc] at e ⊢
      cases e
      exact q _ G2 H2 R2 (st1.trans st2) (.bl false)
theorem de_ch3 {op op' op'' : CmpOp} {f g h : Int → Int → Bool} (ho : OpR X (compareOp op) (rI0 fun i j => .bl (f i j))) (ho' : OpR X (compareOp op') (rI0 fun i j => .bl (g i j))) (ho'' : OpR X (compareOp op'') (rI0 fun i j => .bl (h i j))) (ha : DE X a Fa) (hb : DE X b Fb) (hc : DE X c Fc) (hd : DE X d Fd)
    (hm : lastMarks [op, op', op''] [b, c, d] = false := by with_unfolding_all rfl) : DE X (.Compare a [op, op', op''] [b, c, d] pos) (dCh3 f g h Fa Fb Fc Fd) :=
  PE.by (pe_ch3 ho ho' ho'' ha hb hc hd hm) fun σ H Q h' => ch3_go h'
theorem dt_ch3 {op op' op'' : CmpOp} {f g h : Int → Int → Bool} (ho : OpR X (compareOp op) (rI0 fun i j => .bl (f i j))) (ho' : OpR X (compareOp op') (rI0 fun i j => .bl (g i j))) (ho'' : OpR X (compareOp op'') (rI0 fun i j => .bl (h i j))) (ha : DE X a Fa) (hb : DE X b Fb) (hc : DE X c Fc) (hd : DE X d Fd)
    (hm : lastMarks [op, op', op''] [b, c, d] = false := by with_unfolding_all rfl) : DT X (.Compare a [op, op', op''] [b, c, d] pos) (tOfE (dCh3 f g h Fa Fb Fc Fd)) := by
  refine PT.by (pt_ch3 ho ho' ho'' ha hb hc hd hm) fun σ H Q h => ?_
  obtain ⟨G, δ, b, δ', R, e, q⟩ := h
  obtain ⟨⟨r1, δ1⟩, e1, e⟩ := bind_some_of e
  obtain ⟨b1, e2, e⟩ := bind_some_of e
  cases e
  exact ch3_go (tD_run R e1 (Q := fun x H' => ∃ k, x = .bl k ∧ Q k H') fun v G' H' R' st rv => ⟨b, bool_rv rv e2, q G' H' R' st⟩)

/-! ### x.index(e) -/
def idxL (d : PyData) : List PyData → Option Nat
  | [] => none
  | z :: r => if PyData.eqv z d = true then some 0 else (idxL d r).bind fun n => some (n + 1)
theorem idxL_spec {d : PyData} : ∀ {ds : List PyData} {j : Nat}, idxL d ds = some j → ∃ z, ds[j]? = some z ∧ PyData.eqv z d = true ∧ ∀ (m : Nat) (z' : PyData), m < j → ds[m]? = some z' → PyData.eqv z' d = false
  | [], _, h => by cases h
  | x :: r, j, h => by
    unfold idxL at h
    split at h
    · rename_i hx
      cases h
      exact ⟨x, rfl, hx, fun m _ hm _ => absurd hm (Nat.not_lt_zero m)⟩
    · rename_i hx
      obtain ⟨n, e, h⟩ := bind_some_of h
      cases h
      obtain ⟨z, h1, h2, h3⟩ := idxL_spec e
      refine ⟨z, by simpa using h1, h2, fun m z' hm hz => ?_⟩
      cases m with
      | zero => simp at hz; subst hz; simpa using hx
      | succ m => exact h3 m z' (by omega) (by simpa using hz)
def lstS : Option Sl → Option (List PyData)
  | some (.im (.list ds)) => some ds
  | some (.bx .l ds) => some ds
  | _ => none
theorem lstS_at {K : PySem.W.Frag} {G H : Hp} {σ : SS} {δ : List Sl} {i : Nat} {ds : List PyData} (R : Rel K G H σ δ) (h : lstS δ[i]? = some ds) : ∃ p ws, σ[i]? = some (some (.ref p)) ∧ H p = some (.lst ws) ∧ RpAll K G ws ds := by
  unfold lstS at h
  split at h
  · rename_i es he
    cases h
    obtain ⟨v, e1, r⟩ := R.im he
    cases r with
    | lst hq ra => exact ⟨_, _, e1, R.sub _ _ hq, ra⟩
  · rename_i es he
    cases h
    obtain ⟨p, ws, h1, h2, _, ra⟩ := R.ow he
    exact ⟨p, ws, h1, h2, ra⟩
  · cases h
def dIdx (i : Nat) (F : Ex) : Ex := fun δ => (lstS δ[i]?).bind fun _ => (F δ).bind fun x => x.1.sh.bind fun d => (lstS x.2[i]?).bind fun es => if SeqAt.shaped (.list es) = true ∧ SeqAt.shaped d = true then (idxL d es).bind fun j => some (.im (.int (j : Nat)), x.2) else none
theorem de_idx (i : Nat) {x : Str} {px cpos apos : Pos} (hu : X.A.units + 128 < cLine) (ha : DE X e F) (hN : X.N[i]? = some x := by rfl) (hv : Vis X.env.scope x := by first | exact Or.inl rfl | exact Or.inr (Or.inl rfl) | exact Or.inr (Or.inr rfl)) (hd : (x == ("__debug__" : Str)) = false := by decide)
    (hcd : (x == ("__classdict__" : Str)) = false := by decide) (hbase : attributeBase (.Name x px) "index" X.env (eval (.Name x px) X.env) = eval (.Name x px) X.env := by rfl)
    (hfew : ((backTo cpos (starEach [e] X.env)).all (fun x => !x.1) && (backToKw cpos (keywordEach [] X.env)).all (fun x => x.1.isSome) && decide ([e].length + ([] : List Keyword).length + (if ([] : List Keyword).isEmpty then 0 else 1) < 30)) = true := by rfl)
    (hline : (apos.endLine == cpos.line) = true := by rfl) (hs : starEach [e] X.env = (false, eval e X.env) :: starEach [] X.env := by rfl) (hplain : (backTo cpos (starEach [] X.env)).any (·.1) = false := by rfl) :
    DE X (.Call (.Attribute (.Name x px) "index" apos) [e] [] cpos) (dIdx i F) :=
  PE.by (pe_bm PySem.F.plainAttrs_list PySem.F.slot_list_index PySem.F.type_list_index (mt_indexD (by omega)) (pe_var hN hv hd hcd) (pa_cons ha pa_nil hs) hbase hfew hline hs hplain) fun σ H Q h => by
    obtain ⟨G, δ, r, δ', R, e, q⟩ := h
    obtain ⟨u, e0, e⟩ := bind_some_of e
    obtain ⟨⟨r1, δ1⟩, e1, e⟩ := bind_some_of e
    obtain ⟨d, e2, e⟩ := bind_some_of e
    obtain ⟨es, e3, e⟩ := bind_some_of e
    obtain ⟨⟨s1, s2⟩, e⟩ := of_ite0 e
    obtain ⟨j, e4, e⟩ := bind_some_of e
    cases e
    obtain ⟨p0, ws0, k1, k2, _⟩ := lstS_at R e0
    refine ⟨_, k1, .inl ⟨rfl, _, SqL.of k2⟩, tD_run R e1 fun w G1 H1 R1 st1 rv => ?_⟩
    obtain ⟨G2, R2, st2, _, rp⟩ := RV.shared R1 st1 rv e2
    obtain ⟨p1, ws1, j1, j2, ra⟩ := lstS_at R2 e3
    rw [k1] at j1; cases j1
    obtain ⟨z, h1, h2, h3⟩ := idxL_spec e4
    exact ⟨p0, w, d, es, j, z, rfl, rfl, .lst (SqL.of j2) ((ra.same R2.sub).dp (by simpa only [PyData.hasDict] using noDict_shaped s1)), (rp.same R2.sub).dp (noDict_shaped s2), s1, s2, h1, h2, h3, q _ G2 _ R2 st2 (.int _)⟩

/-! ### targets that are items of lists -/
def tG2 (K : PySem.W.Frag) (P : List Nat) (t : Tg) : TG := fun v σ H Q => ∃ (G : Hp) (δ : List Sl) (d : PyData) (δ' : List Sl), Rel K G H σ δ ∧ Rp K G v d ∧ t d δ = some δ' ∧
  ∀ (σ' : SS) (G' H' : Hp), Rel K G' H' σ' δ' → Stp σ δ G H σ' δ' G' H' → Pin P σ σ' → Q σ' H'
def tGs2 (K : PySem.W.Frag) (P : List Nat) (t : List PyData → List Sl → Option (List Sl)) : TGs := fun vs σ H Q => ∃ (G : Hp) (δ : List Sl) (ds : List PyData) (δ' : List Sl), Rel K G H σ δ ∧ RpAll K G vs ds ∧ t ds δ = some δ' ∧
  ∀ (σ' : SS) (G' H' : Hp), Rel K G' H' σ' δ' → Stp σ δ G H σ' δ' G' H' → Pin P σ σ' → Q σ' H'
def tgS (i : Nat) (Fi : Ex) : Tg := fun d δ => (match δ[i]? with | some (.bx .l _) => some () | _ => none).bind fun _ => (Fi δ).bind fun y => (intOf y.1).bind fun j =>
  (match y.2[i]? with | some (.bx .l ds) => some ds | _ => none).bind fun ds => (ixN ds.length j).bind fun k => some (y.2.set i (.bx .l (ds.set k d)))
variable {P : List Nat} {es : List Expr} {t : Tg} {u : List PyData → List Sl → Option (List Sl)}
theorem dg2_of {e : Expr} (h : PG X e (tG X.K P t)) : PG X e (tG2 X.K P t) := PG.by h fun v σ H Q ⟨G, δ, d, δ', R, r, e, q⟩ => ⟨G, δ, d, δ', R, r, e, fun σ' R' st p => q σ' G H R' st p⟩
theorem dg2_sto (i : Nat) {x : Str} {px tpos : Pos} (hi1 : DE X b Fb) (hN : X.N[i]? = some x := by rfl) (hv : Vis X.env.scope x := by first | exact Or.inl rfl | exact Or.inr (Or.inl rfl) | exact Or.inr (Or.inr rfl)) (hd : (x == ("__debug__" : Str)) = false := by decide)
    (hcd : (x == ("__classdict__" : Str)) = false := by decide)
    (has : ∀ v, assign (.Subscript (.Name x px) b tpos) X.env v = (do
      let ov ← holding [v] (eval (.Name x px) X.env)
      let iv ← holding [v, ov] (eval b X.env)
      standAt tpos
      holding [v, ov, iv] (setItem ov iv v)
      release [v, ov, iv] []) := by intro _; rfl) : PG X (.Subscript (.Name x px) b tpos) (tG2 X.K P (tgS i Fb)) :=
  PG.by (pg_sub (pe_var hN hv hd hcd) hi1 set_list has) fun w σ H Q h => by
    obtain ⟨G2, δ2, d, δ', R2, rp, e, q⟩ := h
    obtain ⟨u, e0, e⟩ := bind_some_of e
    obtain ⟨⟨r3, δ3⟩, e3, e⟩ := bind_some_of e
    obtain ⟨j, e4, e⟩ := bind_some_of e
    obtain ⟨ds, e5, e⟩ := bind_some_of e
    obtain ⟨k, e6, e⟩ := bind_some_of e
    cases e
    split at e0
    · rename_i ds0 hd0
      obtain ⟨p0, ws0, k1, k2, _⟩ := R2.ow hd0
      refine ⟨_, k1, tD_run R2 e3 fun w3 G3 H3 R3 st3 rv3 => ?_⟩
      split at e5
      · rename_i ds1 hd1
        cases e5
        obtain ⟨p1, ws1, j1, j2, _, ra⟩ := R3.ow hd1
        rw [k1] at j1; cases j1
        obtain ⟨R4, st4⟩ := R3.write (ws := ws1.set k w) hd1 k1 ((ra.set (rp.same st3.same) k))
        exact ⟨p0, ws1, j, k, rfl, int_rv rv3 e4, j2, by rw [ra.length]; exact e6, q σ _ _ R4 (st3.trans st4) Pin.refl⟩
      · cases e5
    · cases e0
theorem dgs2_nil : PGs X [] (tGs2 X.K P tgNil) := PGs.by dgs_nil fun v σ H Q ⟨G, δ, d, δ', R, r, e, q⟩ => ⟨G, δ, d, δ', R, r, e, fun σ' R' st p => q σ' G H R' st p⟩
theorem dgs2_cons {e : Expr} (h1 : PG X e (tG2 X.K P t)) (h2 : PGs X es (tGs2 X.K P u)) (hs : (assignEach (e :: es) X.env).map (·.2) = assign e X.env :: (assignEach es X.env).map (·.2) := by rfl) : PGs X (e :: es) (tGs2 X.K P (tgCons t u)) := PGs.by (pgs_cons h1 h2 hs) fun vs σ H Q h => by
  obtain ⟨G, δ, ds, δ', R, r, e, q⟩ := h
  unfold tgCons at e
  split at e
  · rename_i d ds'
    obtain ⟨δ1, e1, e⟩ := bind_some_of e
    cases r with
    | cons r1 r2 =>
      refine ⟨_, _, rfl, G, δ, d, δ1, R, r1, e1, fun σ1 G1 H1 R1 st1 p1 => ?_⟩
      exact ⟨G1, δ1, ds', δ', R1, r2.same st1.same, e, fun σ2 G2 H2 R2 st2 p2 => q σ2 G2 H2 R2 (st1.trans st2) (p1.trans p2)⟩
  · cases e
theorem dg2_tup {k : Nat} {n : Nat} (hc : X.calm = true) (h : PGs X es (tGs2 X.K P u)) (hl : ∀ ds δ δ', u ds δ = some δ' → ds.length = n) (hn : (assignEach es X.env).length = n := by rfl) (hst : (assignEach es X.env).findIdx? (·.1) = none := by rfl) :
    PG X (.Tuple es k pos) (tG2 X.K P (tgT u)) := PG.by (pg_tup hc h hn hst) fun v σ H Q h => by
  obtain ⟨G, δ, d, δ', R, r, e, q⟩ := h
  unfold tgT at e
  split at e
  · rename_i ds
    cases r with
    | tup hq ra =>
      exact ⟨_, _, rfl, sqT_same R.sub hq, by rw [ra.length]; exact hl ds δ δ' e, G, δ, ds, δ', R, ra, e, q⟩
  · cases e
theorem ds_asg2 {tg e : Expr} {F : Ex} (he : DE X e F) (hg : PG X tg (tG2 X.K P t)) (hs : swapsWithSole [tg] e pos.line X.env = pure false := by rfl) (hw : swappedStores [tg] e X.env = pure none := by rfl)
    (h1 : (assignEach [tg] X.env).map (·.2) = [assign tg X.env] := by rfl) : DS X P (.Assign [tg] e pos) (sAsg t F) := PS.by (ps_asg he hg hs hw h1) fun D σ H h => by
  obtain ⟨G, δ, fl, δ', R, e, q⟩ := h
  obtain ⟨⟨r, δ1⟩, e1, e⟩ := bind_some_of e
  obtain ⟨d, e2, e⟩ := bind_some_of e
  obtain ⟨δ2, e3, e⟩ := bind_some_of e
  cases e
  refine tD_run R e1 fun v G' H' R' st rv => ?_
  obtain ⟨G2, R2, st2, _, rp⟩ := RV.shared R' st rv e2
  exact ⟨G2, δ1, d, _, R2, rp, e3, fun σ' G3 H3 R3 st3 p3 => q σ' G3 H3 R3 (st2.trans st3) p3⟩
end
end CK
/-! a local name that holds one of two defs; tuples of the module -/
namespace CK
open PySem PySem.Spec PyProof.Rows L2
variable [Memo]

def tV (K : PySem.W.Frag) (i : Nat) (fA fB : Addr) (A B : Ex) : TE := fun σ H Q => (σ[i]? = some (some (.ref fA)) ∧ tD K A σ H Q) ∨ (σ[i]? = some (some (.ref fB)) ∧ tD K B σ H Q)
section
variable {X : Cx} {P : List Nat} {e a b : Expr} {es : List Expr} {pos p px px2 cpos : Pos} {x y z : Str} {i k kA kB n : Nat} {fA fB : Addr} {dA dB : FuncData} {psA psB : List Str} {mA mB : Fn} {as : List Ag} {ob : Od}
theorem pe_callV [Still ‹Memo›] (hgd : X.A.guards = some []) (FA : FnG X.prog X.w X.K X.mg X.base CX0 kA fA dA psA (spD X.K n mA)) (FB : FnG X.prog X.w X.K X.mg X.base CX0 kB fB dB psB (spD X.K n mB)) (hrA : Room kA X.A) (hrB : Room kB X.A)
    (hkA : PySem.W.keepIn X.K (.ref fA) = true) (hkB : PySem.W.keepIn X.K (.ref fB) = true) (hbA : Binds X.K dA psA []) (hbB : Binds X.K dB psB []) (ha : DA X (e :: es) as) (nd : (agI as).Nodup := by decide) (hn : as.length = n := by rfl)
    (hN : X.N[i]? = some x := by rfl) (hv : Vis X.env.scope x := by first | exact Or.inl rfl | exact Or.inr (Or.inl rfl) | exact Or.inr (Or.inr rfl)) (hd : (x == ("__debug__" : Str)) = false := by decide)
    (hcd : (x == ("__classdict__" : Str)) = false := by decide) (he : starEach (e :: es) X.env = (false, eval e X.env) :: starEach es X.env := by rfl) (hpl : (backTo pos (starEach es X.env)).any (·.1) = false := by rfl) :
    PE X (.Call (.Name x p) (e :: es) [] pos) (tV X.K i fA fB (dCall mA as) (dCall mB as)) := by
  refine ⟨fun pins s σ H Q I h => ?_⟩
  have go : ∀ {k : Nat} {f : Addr} {fd : FuncData} {ps : List Str} {m : Fn}, FnG X.prog X.w X.K X.mg X.base CX0 k f fd ps (spD X.K n m) → Room k X.A → PySem.W.keepIn X.K (.ref f) = true → Binds X.K fd ps [] → σ[i]? = some (some (.ref f)) → tD X.K (dCall m as) σ H Q →
      wpAny (model X.prog X.w) X.A (eval (.Call (.Name x p) (e :: es) [] pos) X.env) (EP X pins σ Q) X.xe s := fun {k f fd ps m} F hr hk hb hs h => by
    refine wpAny_Call_Name_kw (thn ((pe_var (pos := p) hN hv hd hcd).run pins s σ H (fun v H1 => v = .ref f ∧ H1 = H) I ⟨.ref f, hs, rfl, rfl⟩) fun u s1 ⟨v, H1, I1, r1, q1⟩ => ?_)
    obtain ⟨rfl, rfl⟩ := q1
    cases r1
    refine PySem.W.callWith_K (h₀ := X.base) I1.ok.mod.kin hk ?_ he hpl
    refine thn (ha.run pos pins s1 σ _ _ I1 (call_go (E := E0) nd hn h)) fun us s2 ⟨vs, H2, I2, r, q⟩ => ⟨I2.kIn, ?_⟩
    have hl : (us ++ []).length = ps.length := by
      rw [List.append_nil, ← r.length]
      exact F.arity _ _ _ _ q
    have hbs := hb s2 us I2.kIn hl
    rw [List.append_nil] at hbs
    exact runG (args := ⟨us, []⟩) hgd F hr pass0 I2 hbs r q
  rcases h with ⟨h1, h2⟩ | ⟨h1, h2⟩
  · exact go FA hrA hkA hbA h1 h2
  · exact go FB hrB hkB hbB h1 h2
theorem ix_w {K : PySem.W.Frag} {G H1 : Hp} {σ : SS} {δ : List Sl} {Q : VK} {v w : V} {d e : PyData} {z : Sl} (R : Rel K G H1 σ δ) (r1 : RT K G H1 v d) (r2 : RT K G H1 w e) (e3 : ixD d e = some z) (q : Want K G H1 σ δ z Q) : rIx K v w H1 Q := by
  unfold ixD at e3
  split at e3
  · obtain ⟨d, e4, e5⟩ := bind_some_of e3
    cases e5
    obtain ⟨p, ws, rfl, h1, ra⟩ := r1.lst R.sub
    obtain ⟨u, e6, rp⟩ := atI_rp ra e4
    exact .inl ⟨p, ws, _, u, rfl, r2.int, SqL.of h1, e6, Want.im q R rp⟩
  · obtain ⟨d, e4, e5⟩ := bind_some_of e3
    cases e5
    obtain ⟨p, ws, rfl, h1, ra⟩ := r1.tup R.sub
    obtain ⟨u, e6, rp⟩ := atI_rp ra e4
    exact .inr (.inl ⟨p, ws, _, u, rfl, r2.int, h1, e6, Want.im q R rp⟩)
  · obtain ⟨hc, e3⟩ := of_ite0 e3
    obtain ⟨c, e4, e5⟩ := bind_some_of e3
    cases e5
    exact .inr (.inr ⟨_, _, c, r1.str, r2.int, hc, e4, Want.str q R⟩)
  · cases e3
def sPick (i : Nat) (c : Tt) (A B : Ex) (b : Od) : Sm := fun δ => (c δ).bind fun x => if i < x.2.length then sRet (dOp2 ixD (.ex (if x.1 = true then A else B)) b) (x.2.set i .no) else none
theorem dss_pick {c : Expr} {C : Tt} {A B : Ex} {tpos ipos apos spos : Pos} (hN : X.N.Nodup) (hi : X.N[i]? = some x) (hx : Loc X.env.scope x) (hc : DT X c C) (gA : Gl X y) (mA : X.mg y = some (.ref fA)) (gB : Gl X z) (mB : X.mg z = some (.ref fB))
    (hcall : PE X a (tV X.K i fA fB A B)) (hb : DO X b ob) (hp : P.contains i = false := by rfl) (hpx : PlainIx b := by exact fun _ _ => rfl) (hy : (y == ("__debug__" : Str)) = false := by decide) (hz : (z == ("__debug__" : Str)) = false := by decide)
    (hs : swapsWith (.IfExp c (.Name y px) (.Name z px2) ipos) (some (.Name x tpos)) apos.line X.env = pure false := by rfl)
    (hf : X.fn x = true ∨ X.env.scope.names.lookup x = some .local := by first | exact .inl rfl | exact .inr rfl | assumption) :
    DSs X P [.Assign [.Name x tpos] (.IfExp c (.Name y px) (.Name z px2) ipos) apos, .Return (some (.Subscript a b spos)) cpos] (sPick i C A B ob) :=
  PSs.by (pss_cons (ps_set hN hi hx (pe_ifExp hc (pe_glob (v := .ref fA) gA mA rfl hy) (pe_glob (v := .ref fB) gB mB rfl hz)) hs hf) (pss_one (ps_ret (pe_ix ix_seq hcall hb.pe hpx)))) fun D σ H h => by
    obtain ⟨G, δ, fl, δ', R, e, q⟩ := h
    obtain ⟨⟨c, δ1⟩, e1, e⟩ := bind_some_of e
    refine tT_bind R e1 fun G1 H1 R1 st1 => ?_
    obtain ⟨hl1, e⟩ := of_ite0 e
    obtain ⟨⟨r, δ3⟩, e2, e⟩ := bind_some_of e
    cases e
    have fin : ∀ (f : Addr) (F : Ex), dOp2 ixD (.ex F) ob (δ1.set i .no) = some (r, δ3) → ((σ.set i (some (.ref f)))[i]? = some (some (.ref f))) ∧ tO X.K (.ex F) (σ.set i (some (.ref f))) H1 fun v H2 => tO X.K ob (σ.set i (some (.ref f))) H2 fun w H3 => rIx X.K v w H3 D.rt := fun f F e2 => by
      have hl : i < σ.length := by rw [R1.len]; exact hl1
      refine ⟨by simp [hl], od2 (Q := D.rt) (tD_run (R1.set (i := i) (v := .ref f) (s := .no) trivial fun _ _ _ e => nomatch e) e2 fun v G' H' R' st rv => ?_) fun G H1 δ v w d e z R r1 r2 e3 q => ix_w R r1 r2 e3 q⟩
      have st2 := Stp.setR (i := i) (v := .ref f) (r := .no) R1 st1 fun _ _ _ e => nomatch e
      exact q _ G' H' R' (st2.trans st) (Pin.set hp) v (rv.ahead st1).give
    cases c with
    | true => exact .inl (fin fA A e2)
    | false => exact .inr (fin fB B e2)
end
/-- a tuple of the module -/
def TupC (K : PySem.W.Frag) (mg : Str → Option Value) (x : Str) (xs : List V) : Prop := ∃ a, mg x = some (.ref a) ∧ ∃ (o : Obj) (its : Array Value) (n : Nat), K.lookup a = some o ∧ o.cls = .type "tuple" ∧ o.data = .seq its n ∧ its.size ≤ sizeLine ∧ Vals xs its.toList
theorem de_gtup {X : Cx} {x : Str} {xs : List V} {ds : List PyData} {pos : Pos} (hg : Gl X x) (h : TupC X.K X.mg x xs) (hr : ∀ G : Hp, RpAll X.K G xs ds) (hd : (x == ("__debug__" : Str)) = false := by decide) : DE X (.Name x pos) (dC (.tuple ds)) := by
  obtain ⟨a, hm, hq⟩ := h
  exact de_glob (v := .ref a) hg hm rfl (fun G => .tup (.inr hq) (hr G)) hd
/-! a new list, or something else if it is empty -/
def ownL : Sl → Option (List PyData)
  | .bx .l ds => some ds
  | _ => none
def dOrL (f g : Ex) : Ex := fun δ => (f δ).bind fun x => (ownL x.1).bind fun ds => if ds.isEmpty = true then g x.2 else some x
theorem de_orL {X : Cx} {a b : Expr} {rest : List Expr} {pos : Pos} {fA fB : Ex} (ha : DE X a fA) (hb : DE X (.BoolOp .Or (b :: rest) pos) fB) : DE X (.BoolOp .Or (a :: b :: rest) pos) (dOrL fA fB) := by
  refine PE.by (pe_orT ha hb) fun σ H Q h => ?_
  obtain ⟨G, δ, r, δ', R, e, q⟩ := h
  obtain ⟨⟨r1, δ1⟩, e1, e⟩ := bind_some_of e
  obtain ⟨ds, e2, e⟩ := bind_some_of e
  have hr : r1 = .bx .l ds := by
    cases r1 with
    | bx t xs => cases t with
      | l => cases e2; rfl
      | o fs => cases e2
      | d ks => cases e2
    | no => cases e2
    | im d => cases e2
    | fz d => cases e2
    | raw d => cases e2
    | mo d => cases e2
  subst hr
  refine tD_run R e1 fun v G1 H1 R1 st1 rv => ⟨!ds.isEmpty, ?_, ?_⟩
  · obtain ⟨p, ws, rfl, h1, h2, h3, h4, r⟩ := rv
    refine .inl ⟨ws, .inl (Rd.of h1), ?_⟩
    cases r <;> rfl
  · cases hd : ds.isEmpty with
    | true =>
      rw [hd] at e
      rw [if_pos rfl] at e
      rw [if_neg (by decide)]
      exact tD_run R1 e fun u G2 H2 R2 st2 rv2 => q u G2 H2 R2 (st1.trans st2) (rv2.ahead st1)
    | false =>
      rw [hd] at e
      rw [if_neg Bool.false_ne_true] at e
      rw [if_pos (by decide)]
      cases e
      exact q _ G1 H1 R1 st1 rv
/-! a, b, c, d = x, y, z, w: four names, by way of the tuple -/
def sPar4 (i j l m : Nat) (F1 F2 F3 F4 : Ex) : Sm := fun δ => (F1 δ).bind fun x => (F2 x.2).bind fun y => (F3 y.2).bind fun z => (F4 z.2).bind fun u => some (.nx, (((u.2.set i x.1).set j y.1).set l z.1).set m u.1)
theorem ds_par4 {X : Cx} {P : List Nat} {i j l m : Nat} {x y z w : Str} {a b c d : Expr} {F1 F2 F3 F4 : Ex} {px py pz pw pt pos : Pos} {kt k2 pt2} (hc : X.calm = true) (hN : X.N.Nodup) (hi : X.N[i]? = some x) (hj : X.N[j]? = some y) (hl : X.N[l]? = some z) (hm : X.N[m]? = some w)
    (hx : X.env.scope.names.lookup x = some .local) (hy : X.env.scope.names.lookup y = some .local) (hz : X.env.scope.names.lookup z = some .local) (hw : X.env.scope.names.lookup w = some .local) (ha : DEs X [a, b, c, d] [F1, F2, F3, F4])
    (hpi : P.contains i = false := by rfl) (hpj : P.contains j = false := by rfl) (hpl : P.contains l = false := by rfl) (hpm : P.contains m = false := by rfl)
    (hs : swapsWithSole [.Tuple [.Name x px, .Name y py, .Name z pz, .Name w pw] kt pt] (.Tuple [a, b, c, d] k2 pt2) pos.line X.env = pure false := by rfl) (hsw : swappedStores [.Tuple [.Name x px, .Name y py, .Name z pz, .Name w pw] kt pt] (.Tuple [a, b, c, d] k2 pt2) X.env = pure none := by rfl)
    (h1 : (assignEach [.Tuple [.Name x px, .Name y py, .Name z pz, .Name w pw] kt pt] X.env).map (·.2) = [assign (.Tuple [.Name x px, .Name y py, .Name z pz, .Name w pw] kt pt) X.env] := by rfl) :
    DS X P (.Assign [.Tuple [.Name x px, .Name y py, .Name z pz, .Name w pw] kt pt] (.Tuple [a, b, c, d] k2 pt2) pos) (sPar4 i j l m F1 F2 F3 F4) :=
  PS.by (ps_asg (pe_tup ha) (pg_tup (n := 4) hc (pgs_cons (pg_name hN hi (.inl hx) (.inr hx)) (pgs_cons (pg_name hN hj (.inl hy) (.inr hy)) (pgs_cons (pg_name hN hl (.inl hz) (.inr hz)) (pgs_cons (pg_name hN hm (.inl hw) (.inr hw)) pgs_nil))))) hs hsw h1) fun D σ H hh => by
  obtain ⟨G, δ, fl, δ', R, e, q⟩ := hh
  obtain ⟨⟨r1, δ1⟩, e1, e⟩ := bind_some_of e
  obtain ⟨⟨r2, δ2⟩, e2, e⟩ := bind_some_of e
  obtain ⟨⟨r3, δ3⟩, e3, e⟩ := bind_some_of e
  obtain ⟨⟨r4, δ4⟩, e4, e⟩ := bind_some_of e
  cases e
  refine ⟨G, δ, [r1, r2, r3, r4], δ4, R, by simp only [esE, e1, e2, e3, e4, Option.bind_some], fun vs G1 H1 R1 st1 ra => ?_⟩
  match vs, ra with
  | [v, w, u, k], ⟨rv1, Hm, m1, m2, rv2, Hn, n1, n2, rv3, Ho, o1, o2, rv4, _, _, _, _⟩ =>
    refine ⟨by show 4 ≤ sizeLine; rw [sizeLine_eq]; decide, fun t ht => ?_⟩
    have R2 : Rel X.K G1 (upd H1 t (.tup [v, w, u, k])) σ δ4 := R1.new ht
    have st2 : Stp σ δ4 G1 H1 σ δ4 G1 (upd H1 t (.tup [v, w, u, k])) := Stp.new ht
    have stA := st1.trans st2
    replace rv1 := rv1.step st2
    replace rv2 := rv2.step st2
    replace rv3 := rv3.step st2
    replace rv4 := rv4.step st2
    have A := R2.set (i := i) rv1.slot.1 fun p t ds e1 e2 => (rv1.slot.2 p t ds e1 e2).1
    have B := A.set (i := j) rv2.slot.1 fun p t ds e1 e2 z => by
      rcases own_set R2.len z with z | ⟨z, u', es, e3⟩
      · exact (rv2.slot.2 p t ds e1 e2).1 z
      · exact m2 p u' es e3 z (rv2.slot.2 p t ds e1 e2).2
    have C := B.set (i := l) rv3.slot.1 fun p t ds e1 e2 z => by
      rcases own_set A.len z with z | ⟨z, u', es, e3⟩
      · rcases own_set R2.len z with z | ⟨z, u', es, e3⟩
        · exact (rv3.slot.2 p t ds e1 e2).1 z
        · exact m2 p u' es e3 z (n1 _ (rv3.slot.2 p t ds e1 e2).2)
      · exact n2 p u' es e3 z (rv3.slot.2 p t ds e1 e2).2
    have E := C.set (i := m) rv4.slot.1 fun p t ds e1 e2 z => by
      rcases own_set B.len z with z | ⟨z, u', es, e3⟩
      · rcases own_set A.len z with z | ⟨z, u', es, e3⟩
        · rcases own_set R2.len z with z | ⟨z, u', es, e3⟩
          · exact (rv4.slot.2 p t ds e1 e2).1 z
          · exact m2 p u' es e3 z (n1 _ (o1 _ (rv4.slot.2 p t ds e1 e2).2))
        · exact n2 p u' es e3 z (o1 _ (rv4.slot.2 p t ds e1 e2).2)
      · exact o2 p u' es e3 z (rv4.slot.2 p t ds e1 e2).2
    refine ⟨t, [v, w, u, k], rfl, SqT.of upd_same, rfl, v, _, rfl, w, _, rfl, u, _, rfl, k, _, rfl, rfl, ?_⟩
    exact q _ G1 _ E (Stp.setR C (Stp.setR B (Stp.setR A (Stp.setR R2 stA fun p t ds e1 e2 => (rv1.slot.2 p t ds e1 e2).2) fun p t ds e1 e2 => m1 _ (rv2.slot.2 p t ds e1 e2).2) fun p t ds e1 e2 => m1 _ (n1 _ (rv3.slot.2 p t ds e1 e2).2)) fun p t ds e1 e2 => m1 _ (n1 _ (o1 _ (rv4.slot.2 p t ds e1 e2).2))) ((((Pin.set hpi).trans (Pin.set hpj)).trans (Pin.set hpl)).trans (Pin.set hpm))
end CK
/-! objects of the law's own class: attributes, methods, properties, how they are made -/
namespace CK
open PySem PySem.Spec PyProof.Rows L2
variable [Memo]

theorem guards_in1 {A : Around} (h : A.guards = some []) : A.in1.guards = some [] := by
  first | exact h | simpa [Around.in1] using h
theorem guards_make {A : Around} {C : Addr} {us : List Value} {kw : List (Str × Value)} (h : A.guards = some []) : (A.under (.builtin "type.__call__" ⟨.ref C :: us, kw⟩)).guards = some [] := by
  first | exact h | simpa [Around.under, Code.weight, Code.isCreation, Code.isGuard, Code.isCaller, Code.frames, Code.isFrame, guardIds] using h
section
variable {X : Cx} {CX : CXT} {k : Nat} {f g C p : Addr} {fd : FuncData} {ps : List Str} {sp : Sp} {E : XK} {x m : Str} {np pos apos : Pos} {e o : Expr} {es : List Expr} {ta : TE} {t : TA}
theorem runG' {pins : List (Addr × Obj)} {σ : SS} {H : Hp} {s : Shared} {Q : VK} {us : List Value} {vs : List V} (hgd : X.A.guards = some []) (F : FnG X.prog X.w X.K X.mg X.base CX k f fd ps sp) (hr : Room k X.A) (hb : Binds X.K fd ps []) (hx : Passes CX X E)
    (I : Inv X pins σ H s) (r : Vals vs us) (h : sp vs H Q E) : wpAny (model X.prog X.w) X.A (call (.ref f) us) (EP X pins σ Q) X.xe s := by
  have hl : (us ++ []).length = ps.length := by
    rw [List.append_nil, ← r.length]
    exact F.arity _ _ _ _ h
  have hbs := hb s us I.kIn hl
  rw [List.append_nil] at hbs
  exact runG (args := ⟨us, []⟩) hgd F hr hx I hbs r h
theorem pe_methG {pl : Sem Bool} (hgd : X.A.guards = some []) (he : PE X o ta) (c : Cls X.K C) (hm : Meth X.K C m f) (F : FnG X.prog X.w X.K X.mg X.base CX k f fd ps sp) (hr : Room k X.A) (hb : Binds X.K fd ps []) (hx : Passes CX X E) (ha : PA X (e :: es) t)
    (hst : starEach (e :: es) X.env = (false, eval e X.env) :: starEach es X.env := by rfl) (hpl : (backTo pos (starEach es X.env)).any (·.1) = false := by rfl)
    (ht : eval (.Call (.Attribute o m apos) (e :: es) [] pos) X.env = (do
      let ov ← eval o X.env
      standAt apos.atName
      let (f, first) ← holding [ov] (getMethod ov m pl)
      callWith pos f first (backTo pos (starEach (e :: es) X.env)) (backToKw pos (keywordEach [] X.env))) := by rfl) :
    PE X (.Call (.Attribute o m apos) (e :: es) [] pos) (tMeth C m sp [] E ta t) := by
  refine ⟨fun pins s σ H Q I h => ?_⟩
  refine PySem.W.methodCall_KW (pl := pl) (thn (he.run pins s σ H _ I h) fun u s1 ⟨x, H1, I1, rx, a, dx, fs, ex, ea, l, q⟩ => ?_) ht
  subst ex
  obtain rfl : u = Value.ref a := rx
  refine getmeth_ok I1 ea c hm l ?_
  refine PySem.W.callWith_K (first := [.ref a]) (h₀ := X.base) I.ok.mod.kin hm.kp (thn (ha.run pos pins s1 σ H1 _ I1 q) fun us s2 ⟨vs, H2, I2, r, q2⟩ => ⟨I2.kIn, ?_⟩) hst hpl
  have q2 : sp (.ref a :: (vs ++ [])) H2 Q E := q2
  rw [List.append_nil] at q2
  exact runG' (us := .ref a :: us) (vs := .ref a :: vs) hgd F hr hb hx I2 (.cons rfl r) q2
theorem pe_methG0 {pl : Sem Bool} (hgd : X.A.guards = some []) (he : PE X o ta) (c : Cls X.K C) (hm : Meth X.K C m f) (F : FnG X.prog X.w X.K X.mg X.base CX k f fd ps sp) (hr : Room k X.A) (hb : Binds X.K fd ps []) (hx : Passes CX X E)
    (ht : eval (.Call (.Attribute o m apos) [] [] pos) X.env = (do
      let ov ← eval o X.env
      standAt apos.atName
      let (f, first) ← holding [ov] (getMethod ov m pl)
      callWith pos f first (backTo pos (starEach [] X.env)) (backToKw pos (keywordEach [] X.env))) := by rfl) :
    PE X (.Call (.Attribute o m apos) [] [] pos) (tMeth C m sp [] E ta tNil) := by
  refine ⟨fun pins s σ H Q I h => ?_⟩
  refine PySem.W.methodCall_KW (pl := pl) (thn (he.run pins s σ H _ I h) fun u s1 ⟨x, H1, I1, rx, a, dx, fs, ex, ea, l, q⟩ => ?_) ht
  subst ex
  obtain rfl : u = Value.ref a := rx
  refine getmeth_ok I1 ea c hm l ?_
  exact PySem.W.callWith_K0 (first := [.ref a]) I1.kIn hm.kp (runG' (us := [.ref a]) (vs := [.ref a]) hgd F hr hb hx I1 (.cons rfl .nil) q)
theorem pe_makeG (hgd : X.A.guards = some []) (M : Mk X.K C f) (F : FnG X.prog X.w X.K X.mg X.base CX k f fd ps sp) (hr : Room (k + 1) X.A) (hg : Gl X x) (hm : X.mg x = some (.ref C)) (hb : Binds X.K fd ps []) (hx : Passes CX X E)
    (ha : PA X (e :: es) t) (hdb : (x == ("__debug__" : Str)) = false := by decide) (he : starEach (e :: es) X.env = (false, eval e X.env) :: starEach es X.env := by rfl) (hpl : (backTo pos (starEach es X.env)).any (·.1) = false := by rfl) :
    PE X (.Call (.Name x np) (e :: es) [] pos) (tMake C sp [] E t) := by
  refine ⟨fun pins s σ H Q I h => ?_⟩
  refine wpAny_Call_Name_kw (ld_glob I hg hm ?_ hdb)
  refine PySem.W.callWith_K (h₀ := X.base) I.ok.mod.kin M.kp (thn (ha.run pos pins s σ H _ I h) fun us s1 ⟨vs, H1, I1, r, q⟩ => ⟨I1.kIn, ?_⟩) he hpl
  have hq := q (s1.heap.objs.size + 1) s1.heap.objs.size (I1.hok.fresh (Nat.le_succ _)) (I1.hok.fresh (Nat.le_refl _)) (Nat.ne_of_lt (Nat.lt_succ_self _))
  have I2 := Inv.made (C := C) I1
  rw [List.append_nil] at hq
  have r2 : Vals (V.ref (s1.heap.objs.size + 1) :: vs) (Value.ref (s1.heap.objs.size + 1) :: us) := .cons rfl r
  have hl : (Value.ref (s1.heap.objs.size + 1) :: us ++ []).length = ps.length := by
    have e := r2.length
    rw [F.arity _ _ _ _ hq] at e
    rw [List.append_nil]
    exact e.symm
  have hbs := hb _ (Value.ref (s1.heap.objs.size + 1) :: us) I2.kIn hl
  rw [List.append_nil] at hbs
  refine wpAny_call (make_map (f := f) I1.kIn M.makes M.init (beq_iff_eq.mp M.fn) (codeAny_mono (F.go _ X.stack _ _ ⟨Value.ref (s1.heap.objs.size + 1) :: us, []⟩ (Value.ref (s1.heap.objs.size + 1) :: us) _ _ E (guards_make hgd) (hr.make C us [])
    (I2.env0.make C us []) hbs r2 hq) fun r s' hq' => ?_))
  cases r with
  | error e => exact hx pins σ _ _ e s' I2 hq'
  | ok fl =>
    cases fl with
    | ret u =>
      obtain ⟨v, H', I3, rv, ev, q3⟩ := I2.after hq'
      subst ev
      exact ⟨rv, ⟨V.ref (s1.heap.objs.size + 1), H', I3, rfl, q3⟩⟩
    | next => exact False.elim hq'
    | brk => exact False.elim hq'
    | cont => exact False.elim hq'
theorem pe_propG (hgd : X.A.guards = some []) {fn : Str} (he : PE X e ta) (c : Cls X.K C) (hp : PropOf X.K C fn p g) (F : FnG X.prog X.w X.K X.mg X.base CX k g fd ps sp) (hr : Room (k + 1) X.A) (hb : Binds X.K fd ps []) (hx : Passes CX X.nox E)
    (hab : attributeBase e fn X.env (eval e X.env) = eval e X.env) : PE X (.Attribute e fn pos) (tProp C sp [] E ta) := by
  refine ⟨fun pins s σ H Q I h => ?_⟩
  refine attr_of hab (thn (he.run pins s σ H _ I h) fun u s1 ⟨x, H1, I1, rx, a, dx, fs, ex, ea, q⟩ => ?_)
  subst ex
  obtain rfl : u = Value.ref a := rx
  obtain ⟨mA, O, _, _, _, _⟩ := ins_get I1.hok ea
  obtain ⟨od, J, _⟩ := O.look
  obtain ⟨rest, hrec⟩ := hp.rec_
  have I2 := I1.tok (s1.toks + 1)
  have hl : ([Value.ref a] ++ []).length = ps.length := by
    rw [← F.arity _ _ _ _ q]; rfl
  have hc : (PySem.W.clsIn X.K C).isSome = true := by
    obtain ⟨cd, hc, _⟩ := PySem.W.any_some c.hd
    rw [hc]
    rfl
  refine PySem.W.get_bind I1.kIn J (PySem.W.plainGet_of (c.get fn)).1 (PySem.W.findObj_data hc hp.at_ hp.get hp.tak) (PySem.W.plainGet_of (c.get fn)).2 (wpAny_call (PySem.W.prop_get (s := { s1 with toks := s1.toks + 1 }) I1.kIn hrec ?_))
  refine codeAny_mono (F.go X.A.in1 X.stack { s1 with toks := s1.toks + 1 } H1 ⟨[.ref a], []⟩ [.ref a] [.ref a] Q E (guards_in1 hgd) hr.in1 I2.env0.in1 (hb _ [.ref a] I2.kIn hl) (.cons rfl .nil) q) fun r s' hq => ?_
  cases r with
  | error er => exact False.elim (hx pins σ H1 { s1 with toks := s1.toks + 1 } er s' (I2.wish _) hq)
  | ok fl =>
    cases fl with
    | ret u =>
      obtain ⟨v, H', I3, rv, q3⟩ := I2.after hq
      show wpAny _ _ (handedOut u) _ _ _
      rw [PySem.W.handedOut_of (handed_of rv)]
      exact wpAny_pure ⟨v, H', I3, rv, q3⟩
    | next => exact False.elim hq
    | brk => exact False.elim hq
    | cont => exact False.elim hq
end

/-! ### attributes -/
def objS : Option Sl → Option (List Str × List PyData)
  | some (.bx (.o fs) ds) => some (fs, ds)
  | _ => none
def dFld (i : Nat) (f : Str) : Ex := fun δ => (objS δ[i]?).bind fun o => ((o.1.zip o.2).lookup f).bind fun d => some (.im d, δ)
def putD (f : Str) (d : PyData) : List Str → List PyData → Option (List Str × List PyData)
  | [], [] => some ([f], [d])
  | g :: fs, x :: ds => if g = f then some (g :: fs, d :: ds) else (putD f d fs ds).bind fun r => some (g :: r.1, x :: r.2)
  | _, _ => none
/-- o.f = e -/
def sFldD (i : Nat) (f : Str) (F : Ex) : Sm := fun δ => (F δ).bind fun x => x.1.sh.bind fun d => (objS x.2[i]?).bind fun o => if o.1.length < 9 then (putD f d o.1 o.2).bind fun r => some (.nx, x.2.set i (.bx (.o r.1) r.2)) else none
/-- o.m(..) -/
def dMeth (m : Str) (fn : Fn) (i : Nat) (as : List Ag) : Ex := fun δ => (objS δ[i]?).bind fun o => if o.1.contains m = false then dCall fn (.io i :: as) δ else none
/-- a property -/
def dProp (fn : Fn) (i : Nat) : Ex := fun δ => (objS δ[i]?).bind fun _ => dCall fn [.io i] δ
/-- C(..) -/
def dMake (fn : Fn) (as : List Ag) : Ex := fun δ => if agI as = [] then (agE as δ).bind fun x => (agS as x.1 x.2).bind fun ss => (fn (.bx (.o []) [] :: ss)).bind fun y => match y with
  | (.im .none, .bx (.o fs) ds :: _) => some (.bx (.o fs) ds, x.2)
  | _ => none else none
theorem objS_at {o : Option Sl} {z : List Str × List PyData} (h : objS o = some z) : o = some (.bx (.o z.1) z.2) := by
  unfold objS at h
  split at h
  · cases h; rfl
  · cases h
section
variable {K : PySem.W.Frag} {G G' H H' : Hp} {σ : SS} {δ : List Sl}
theorem zip_get {f : Str} {d : PyData} : ∀ {fs : List Str} {ws : List V} {ds : List PyData}, RpAll K G ws ds → (fs.zip ds).lookup f = some d → ∃ v, (fs.zip ws).lookup f = some v ∧ Rp K G v d
  | [], _, _, _, h => by simp at h
  | g :: fs, _, _, .nil, h => by simp at h
  | g :: fs, v :: ws, x :: ds, .cons a b, h => by
    rw [List.zip_cons_cons, List.lookup_cons] at h ⊢
    split at h
    · cases h; exact ⟨v, rfl, a⟩
    · exact zip_get b h
theorem zip_none {f : Str} : ∀ {fs : List Str} {ws : List V}, fs.contains f = false → (fs.zip ws).lookup f = none
  | [], _, _ => by simp
  | g :: fs, [], _ => by simp
  | g :: fs, w :: ws, h => by
    rw [List.contains_cons, Bool.or_eq_false_iff] at h
    rw [List.zip_cons_cons, List.lookup_cons, h.1]
    exact zip_none h.2
theorem putD_ok {f : Str} {d : PyData} {v : V} (hv : Rp K G v d) : ∀ {fs : List Str} {ds : List PyData} {ws : List V} {r : List Str × List PyData}, RpAll K G ws ds → putD f d fs ds = some r → ∃ ws', RpAll K G ws' r.2 ∧ r.1.zip ws' = putF f v (fs.zip ws)
  | [], [], _, r, h, e => by
    cases h; cases e
    exact ⟨[v], .cons hv .nil, rfl⟩
  | [], _ :: _, _, r, h, e => by cases e
  | _ :: _, [], _, r, h, e => by cases e
  | g :: fs, x :: ds, _, r, .cons (v := w) (vs := ws) a b, e => by
    unfold putD at e
    by_cases hg : g = f
    · rw [if_pos hg] at e; cases e
      refine ⟨v :: ws, .cons hv b, ?_⟩
      rw [List.zip_cons_cons, List.zip_cons_cons]
      unfold putF
      rw [if_pos hg]
    · rw [if_neg hg] at e
      obtain ⟨r1, e1, e⟩ := bind_some_of e
      cases e
      obtain ⟨ws', k1, k2⟩ := putD_ok hv b e1
      refine ⟨w :: ws', .cons a k1, ?_⟩
      rw [List.zip_cons_cons, List.zip_cons_cons, k2]
      conv => rhs; unfold putF
      rw [if_neg hg]
end
section
variable {X : Cx} {P : List Nat} {k n : Nat} {f g p : Addr} {fd : FuncData} {ps : List Str} {fn : Fn} {x m : Str} {np px pos apos : Pos} {e : Expr} {es : List Expr} {as : List Ag} {F : Ex}
theorem de_fld {a : Str} (i : Nat) (c : Cls X.K Memo.C) (na : NoAttr X.K Memo.C a) (hN : X.N[i]? = some x := by rfl) (hv : Vis X.env.scope x := by first | exact Or.inl rfl | exact Or.inr (Or.inl rfl) | exact Or.inr (Or.inr rfl)) (hd : (x == ("__debug__" : Str)) = false := by decide)
    (hcd : (x == ("__classdict__" : Str)) = false := by decide) (hb : attributeBase (.Name x px) a X.env (eval (.Name x px) X.env) = eval (.Name x px) X.env := by rfl) : DE X (.Attribute (.Name x px) a pos) (dFld i a) :=
  PE.by (pe_fld (pe_var hN hv hd hcd) hb) fun σ H Q h => by
    obtain ⟨G, δ, r, δ', R, e, q⟩ := h
    obtain ⟨o, e0, e⟩ := bind_some_of e
    obtain ⟨d, e1, e⟩ := bind_some_of e
    cases e
    obtain ⟨p, ws, k1, ⟨dx, k2⟩, k3, k4⟩ := R.bx (objS_at e0)
    obtain ⟨v, l, rv⟩ := zip_get k4 e1
    exact ⟨_, k1, p, _, dx, _, v, rfl, k2, c, na, l, q v G H R Stp.refl rv⟩
theorem ds_fld {a : Str} (i : Nat) (c : Cls X.K Memo.C) (na : NoAttr X.K Memo.C a) (he : DE X e F) (hN : X.N[i]? = some x := by rfl) (hv : Vis X.env.scope x := by first | exact Or.inl rfl | exact Or.inr (Or.inl rfl) | exact Or.inr (Or.inr rfl)) (hd : (x == ("__debug__" : Str)) = false := by decide)
    (hcd : (x == ("__classdict__" : Str)) = false := by decide) (hs : swapsWith e (some (.Attribute (.Name x px) a apos)) pos.line X.env = pure false := by rfl) : DS X P (.Assign [.Attribute (.Name x px) a apos] e pos) (sFldD i a F) :=
  PS.by (ps_fld (pe_var hN hv hd hcd) he hs) fun D σ H h => by
    obtain ⟨G, δ, fl, δ', R, e, q⟩ := h
    obtain ⟨⟨r1, δ1⟩, e1, e⟩ := bind_some_of e
    obtain ⟨d, e2, e⟩ := bind_some_of e
    obtain ⟨o, e3, e⟩ := bind_some_of e
    obtain ⟨hl, e⟩ := of_ite0 e
    obtain ⟨r, e4, e⟩ := bind_some_of e
    cases e
    refine tD_run R e1 fun v G1 H1 R1 st1 rv => ?_
    obtain ⟨G2, R2, st2, _, rp⟩ := RV.shared R1 st1 rv e2
    have hi := objS_at e3
    obtain ⟨p, ws, k1, ⟨dx, k2⟩, k3, k4⟩ := R2.bx hi
    obtain ⟨ws', j1, j2⟩ := putD_ok rp k4 e4
    obtain ⟨R3, st3⟩ := R2.writeB (t' := .o r.1) (o := .ins Memo.C dx (putF a v (o.1.zip ws))) hi k1 ⟨dx, by rw [upd_same, j2]⟩ j1
    refine ⟨_, k1, p, _, dx, _, rfl, k2, c, na, ?_, q σ G2 _ R3 (st2.trans st3) Pin.refl⟩
    rw [List.length_zip]; omega
theorem meth_go [Still ‹Memo›] {H : Hp} {Q : VK} {E : XK} {σ : SS} {i : Nat} (nd : (agI (.io i :: as)).Nodup) (hn : as.length + 1 = n) (h : tD X.K (dMeth m fn i as) σ H Q) : tMeth Memo.C m (spD X.K n fn) [] E (tVar i) (tAg X.K as) σ H Q := by
  obtain ⟨G, δ, r, δ', R, e, q⟩ := h
  obtain ⟨o, e0, e⟩ := bind_some_of e
  obtain ⟨hc, e⟩ := of_ite0 e
  obtain ⟨p, ws, k1, ⟨dx, k2⟩, k3, k4⟩ := R.bx (objS_at e0)
  refine ⟨_, k1, p, dx, _, rfl, k2, zip_none hc, ?_⟩
  obtain ⟨G2, δ2, ps, δ3, R2, e2, q2⟩ := call_go (E := E) nd hn ⟨G, δ, r, δ', R, e, q⟩
  obtain ⟨u, e4, e2⟩ := bind_some_of e2
  obtain ⟨⟨ps1, δ4⟩, e3, e2⟩ := bind_some_of e2
  cases e2
  refine ⟨G2, δ2, ps1, _, R2, e3, fun vs G3 H3 R3 st3 aw => ?_⟩
  show spD X.K n fn (.ref p :: (vs ++ [])) H3 Q E
  rw [List.append_nil]
  exact q2 (.ref p :: vs) G3 H3 R3 st3 ⟨k1, aw⟩
theorem de_meth [Still ‹Memo›] {pl : Sem Bool} (i : Nat) (hgd : X.A.guards = some []) (c : Cls X.K Memo.C) (hm : Meth X.K Memo.C m f) (F : FnG X.prog X.w X.K X.mg X.base CX0 k f fd ps (spD X.K n fn)) (hr : Room k X.A) (hb : Binds X.K fd ps []) (ha : DA X (e :: es) as) (nd : (agI (.io i :: as)).Nodup := by decide) (hn : as.length + 1 = n := by rfl)
    (hN : X.N[i]? = some x := by rfl) (hv : Vis X.env.scope x := by first | exact Or.inl rfl | exact Or.inr (Or.inl rfl) | exact Or.inr (Or.inr rfl)) (hd : (x == ("__debug__" : Str)) = false := by decide) (hcd : (x == ("__classdict__" : Str)) = false := by decide)
    (hst : starEach (e :: es) X.env = (false, eval e X.env) :: starEach es X.env := by rfl) (hpl : (backTo pos (starEach es X.env)).any (·.1) = false := by rfl)
    (ht : eval (.Call (.Attribute (.Name x px) m apos) (e :: es) [] pos) X.env = (do
      let ov ← eval (.Name x px) X.env
      standAt apos.atName
      let (f, first) ← holding [ov] (getMethod ov m pl)
      callWith pos f first (backTo pos (starEach (e :: es) X.env)) (backToKw pos (keywordEach [] X.env))) := by rfl) :
    DE X (.Call (.Attribute (.Name x px) m apos) (e :: es) [] pos) (dMeth m fn i as) :=
  PE.by (pe_methG (pl := pl) hgd (pe_var hN hv hd hcd) c hm F hr hb pass0 ha hst hpl ht) fun σ H Q h => meth_go nd hn h
theorem de_meth0 [Still ‹Memo›] {pl : Sem Bool} (i : Nat) (hgd : X.A.guards = some []) (c : Cls X.K Memo.C) (hm : Meth X.K Memo.C m f) (F : FnG X.prog X.w X.K X.mg X.base CX0 k f fd ps (spD X.K n fn)) (hr : Room k X.A) (hb : Binds X.K fd ps []) (hn : 1 = n := by rfl)
    (hN : X.N[i]? = some x := by rfl) (hv : Vis X.env.scope x := by first | exact Or.inl rfl | exact Or.inr (Or.inl rfl) | exact Or.inr (Or.inr rfl)) (hd : (x == ("__debug__" : Str)) = false := by decide) (hcd : (x == ("__classdict__" : Str)) = false := by decide)
    (ht : eval (.Call (.Attribute (.Name x px) m apos) [] [] pos) X.env = (do
      let ov ← eval (.Name x px) X.env
      standAt apos.atName
      let (f, first) ← holding [ov] (getMethod ov m pl)
      callWith pos f first (backTo pos (starEach [] X.env)) (backToKw pos (keywordEach [] X.env))) := by rfl) :
    DE X (.Call (.Attribute (.Name x px) m apos) [] [] pos) (dMeth m fn i []) :=
  PE.by (pe_methG0 (pl := pl) hgd (pe_var hN hv hd hcd) c hm F hr hb pass0 ht) fun σ H Q h => by
    obtain ⟨v, k1, a, dx, fs, z1, z2, z3, G, δ, ps, δ', R, e, q⟩ := meth_go (E := E0) (n := n) (as := []) (by simp [agI]) hn h
    cases e
    exact ⟨v, k1, a, dx, fs, z1, z2, z3, q [] G H R Stp.refl trivial⟩
theorem de_prop [Still ‹Memo›] {a : Str} (i : Nat) (hgd : X.A.guards = some []) (c : Cls X.K Memo.C) (hp : PropOf X.K Memo.C a p g) (F : FnG X.prog X.w X.K X.mg X.base CX0 k g fd ps (spD X.K 1 fn)) (hr : Room (k + 1) X.A) (hb : Binds X.K fd ps [])
    (hN : X.N[i]? = some x := by rfl) (hv : Vis X.env.scope x := by first | exact Or.inl rfl | exact Or.inr (Or.inl rfl) | exact Or.inr (Or.inr rfl)) (hd : (x == ("__debug__" : Str)) = false := by decide) (hcd : (x == ("__classdict__" : Str)) = false := by decide)
    (hab : attributeBase (.Name x px) a X.env (eval (.Name x px) X.env) = eval (.Name x px) X.env := by rfl) : DE X (.Attribute (.Name x px) a pos) (dProp fn i) :=
  PE.by (pe_propG hgd (pe_var hN hv hd hcd) c hp F hr hb pass0 hab) fun σ H Q h => by
    obtain ⟨G, δ, r, δ', R, e, q⟩ := h
    obtain ⟨o, e0, e⟩ := bind_some_of e
    obtain ⟨p, ws, k1, ⟨dx, k2⟩, k3, k4⟩ := R.bx (objS_at e0)
    refine ⟨_, k1, p, dx, _, rfl, k2, ?_⟩
    obtain ⟨G2, δ2, ps, δ3, R2, e2, q2⟩ := call_go (E := E0) (n := 1) (as := [.io i]) (by simp [agI]) rfl ⟨G, δ, r, δ', R, e, q⟩
    obtain ⟨u, e4, e2⟩ := bind_some_of e2
    obtain ⟨⟨ps1, δ4⟩, e3, e2⟩ := bind_some_of e2
    cases e3
    cases e2
    exact q2 [.ref p] G2 H R2 Stp.refl ⟨k1, trivial⟩
theorem make_go [Still ‹Memo›] {H : Hp} {Q : VK} {E : XK} {σ : SS} (hn : as.length + 1 = n) (h : tD X.K (dMake fn as) σ H Q) : tMake Memo.C (spD X.K n fn) [] E (tAg X.K as) σ H Q := by
  obtain ⟨G, δ, r, δ', R, e, q⟩ := h
  obtain ⟨hi, e⟩ := of_ite0 e
  obtain ⟨⟨ps, δ1⟩, e1, e⟩ := bind_some_of e
  obtain ⟨ss, e2, e⟩ := bind_some_of e
  obtain ⟨⟨r1, ss'⟩, e3, e⟩ := bind_some_of e
  refine ⟨G, δ, ps, δ1, R, e1, fun vs G1 H1 R1 st1 aw x dx nx ndx ne => ?_⟩
  obtain ⟨sl, sg⟩ := agS_get e2 aw
  have vl := agS_len aw
  rw [List.append_nil]
  have hdx : upd H1 dx (.own x) x = none := by rw [upd_ne (Ne.symm ne)]; exact nx
  have new : ∀ {b : Addr} {o : HO}, H1 b = some o → upd (upd H1 dx (.own x)) x (.ins Memo.C dx []) b = some o := fun {b o} hb => by
    rw [upd_ne (ne_of_none hb nx), upd_ne (ne_of_none hb ndx)]; exact hb
  have old : ∀ {b : Addr}, upd (upd H1 dx (.own x)) x (.ins Memo.C dx []) b = none → H1 b = none := fun {b} hb => by
    cases hx : H1 b with
    | none => rfl
    | some o => rw [new hx] at hb; cases hb
  have no : ∀ {j : Nat} {t : Bt} {ds : List PyData}, ss[j]? ≠ some (.bx t ds) := fun {j t ds} hj => by
    obtain ⟨v, _, h⟩ := sg j _ hj
    rcases h with ⟨_, h, _⟩ | ⟨i, _, _, hh, _⟩ | ⟨i, _, hh, _⟩
    · exact h t ds rfl
    · have := agI_mem hh
      rw [hi] at this
      cases this
    · have := agI_mem hh
      rw [hi] at this
      cases this
  have own1 : ∀ {a : Addr}, Own ((V.ref x :: vs).map some) (.bx (.o []) [] :: ss) a → a = x := by
    rintro a ⟨j, t, ds, h1, h2⟩
    cases j with
    | zero => cases h1; rfl
    | succ j => exact absurd h2 no
  have RA : Rel X.K G1 (upd (upd H1 dx (.own x)) x (.ins Memo.C dx [])) ((V.ref x :: vs).map some) (.bx (.o []) [] :: ss) := by
    refine ⟨fun b u hb => new (R1.sub _ _ hb), by simp [sl], fun j s hs => ?_, fun i j p t u ds es h1 h2 h3 h4 => ?_, jN (jN R1.inv ndx) hdx⟩
    · cases j with
      | zero =>
        cases hs
        exact ⟨x, [], rfl, ⟨dx, upd_same⟩, gfree R1.sub nx, .nil⟩
      | succ j =>
        have hs' : ss[j]? = some s := hs
        obtain ⟨v, hv, h⟩ := sg j s hs'
        have ev : (((V.ref x :: vs).map some)[j + 1]?).getD none = some v := by
          show ((vs.map some)[j]?).getD none = some v
          rw [List.getElem?_map, hv]; rfl
        rw [ev]
        rcases h with ⟨h, h', h5⟩ | ⟨i, t, ds, h1, _⟩ | ⟨i, x, h1, _⟩
        · cases s with
          | no => exact h.elim
          | im d => exact ⟨v, rfl, h⟩
          | bx t d => exact absurd rfl (h' t d)
          | fz d => obtain ⟨p, ws, e, q, r⟩ := h; exact ⟨p, ws, by rw [e], q, r⟩
          | raw u => rw [show v = u from h]; rfl
          | mo x => exact h.elim
        · have := agI_mem h1
          rw [hi] at this
          cases this
        · have := agI_mem h1
          rw [hi] at this
          cases this
    · cases i with
      | zero =>
        cases j with
        | zero => rfl
        | succ j => exact absurd h4 no
      | succ i => exact absurd h2 no
  refine ⟨by simp [vl, hn], G1, _, r1, ss', RA, e3, fun v G2 H2 R2 st2 rv => ?_⟩
  dsimp only at e
  split at e
  · rename_i y fs ds rest hy
    cases hy
    cases e
    cases rv
    refine ⟨rfl, ?_⟩
    have R2' := R2.bx (i := 0) rfl
    obtain ⟨p, ws, k1, k2, k3, k4⟩ := R2'
    cases k1
    have nlS : ∀ {a : Addr}, ¬ Memo.W a := fun {a} => Still.st a
    have keep : ∀ {b : Addr} {o : HO}, H1 b = some o → ¬ (VolO o ∧ Memo.W b) → H2 b = some o := fun {b o} hb nv => (st2.keep b o (new hb) fun z => by
      have := own1 z
      subst this
      rw [nx] at hb; cases hb).1 nv
    have gn : ∀ {b : Addr} {o : HO}, H1 b = some o → G1 b = none → G2 b = none := fun {b o} hb hg => by
      cases hx : G2 b with
      | none => rfl
      | some u =>
        rcases st2.grow b u hx with z | z | z
        · rw [hg] at z; cases z
        · rw [new hb] at z; cases z
        · have := own1 z
          subst this
          rw [nx] at hb; cases hb
    have R3 : Rel X.K G2 H2 σ δ' := by
      refine ⟨R2.sub, R1.len, fun i s hs => (R1.slot i s hs).same st2.same (fun p t ws ds e g1 g2 g3 => ?_) (mSt st2.same (fun b φ hb hg => gn hb hg) fun a o e ns => keep e fun z => nlS z.2), R1.inj, R2.inv⟩
      obtain ⟨o1, g1, nv, kb⟩ := g1.at
      exact ⟨kb _ (keep g1 fun z => nv z.1), gn g1 g2⟩
    have st3 : Stp σ δ' G1 H1 σ δ' G2 H2 := by
      refine ⟨fun a o ha na => ⟨keep ha, na⟩, fun a ha => old (st2.dom a ha), st2.same, fun a o ha => ?_⟩
      rcases st2.grow a o ha with z | z | z
      · exact .inl z
      · exact .inr (.inl (old z))
      · have := own1 z
        subst this
        exact .inr (.inl nx)
    refine q (.ref x) G2 H2 R3 (st1.trans st3) ⟨x, ws, rfl, k2, k3, fun z => ?_, st1.dom x nx, k4⟩
    obtain ⟨_, t', ws', z'⟩ := R1.gOwn z
    exact z'.not nx
  · cases e
theorem de_make [Still ‹Memo›] (hgd : X.A.guards = some []) (M : Mk X.K Memo.C f) (F : FnG X.prog X.w X.K X.mg X.base CX0 k f fd ps (spD X.K n fn)) (hr : Room (k + 1) X.A) (hg : Gl X x) (hm : X.mg x = some (.ref Memo.C)) (hb : Binds X.K fd ps []) (ha : DA X (e :: es) as) (hn : as.length + 1 = n := by rfl)
    (hdb : (x == ("__debug__" : Str)) = false := by decide) (he : starEach (e :: es) X.env = (false, eval e X.env) :: starEach es X.env := by rfl) (hpl : (backTo pos (starEach es X.env)).any (·.1) = false := by rfl) :
    DE X (.Call (.Name x np) (e :: es) [] pos) (dMake fn as) :=
  PE.by (pe_makeG hgd M F hr hg hm hb pass0 ha hdb he hpl) fun σ H Q h => make_go (E := E0) hn h
end
/-! ### objects put aside -/
def hideS : Sl → Sl
  | .bx (.o _) _ => .no
  | .bx (.d _) _ => .no
  | s => s
def hide : List Sl → List Sl
  | [] => []
  | s :: r => hideS s :: hide r
def unS : Sl → Sl → Sl
  | .bx (.o fs) ds, _ => .bx (.o fs) ds
  | .bx (.d ks) ds, _ => .bx (.d ks) ds
  | _, x => x
def unh : List Sl → List Sl → List Sl
  | s :: r, x :: y => unS s x :: unh r y
  | _, y => y
def dHide (F : Ex) : Ex := fun δ => (F (hide δ)).bind fun x => some (x.1, unh δ x.2)
theorem hide_get : ∀ {δ : List Sl} {i : Nat}, (hide δ)[i]? = (δ[i]?).map hideS
  | [], _ => rfl
  | _ :: _, 0 => rfl
  | _ :: r, i + 1 => hide_get (δ := r) (i := i)
theorem hide_len : ∀ {δ : List Sl}, (hide δ).length = δ.length
  | [] => rfl
  | _ :: r => congrArg (· + 1) (hide_len (δ := r))
theorem unh_len : ∀ {δ δ1 : List Sl}, (unh δ δ1).length = δ1.length
  | [], _ => rfl
  | _ :: _, [] => rfl
  | _ :: r, _ :: y => congrArg (· + 1) (unh_len (δ := r) (δ1 := y))
theorem unh_get : ∀ {δ δ1 : List Sl} {i : Nat} {s : Sl}, (unh δ δ1)[i]? = some s → (∃ t ds, s = .bx t ds ∧ t ≠ .l ∧ δ[i]? = some s) ∨ (δ1[i]? = some s)
  | [], _, _, _, h => .inr h
  | _ :: _, [], _, _, h => .inr h
  | a :: _, x :: _, 0, s, h => by
    have h : some (unS a x) = some s := h
    cases h
    unfold unS
    split
    · exact .inl ⟨_, _, rfl, (fun z => nomatch z), rfl⟩
    · exact .inl ⟨_, _, rfl, (fun z => nomatch z), rfl⟩
    · exact .inr rfl
  | _ :: r, _ :: y, i + 1, _, h => unh_get (δ := r) (δ1 := y) (i := i) h
theorem hide_bx {δ : List Sl} {i : Nat} {t : Bt} {ds : List PyData} (h : (hide δ)[i]? = some (.bx t ds)) : δ[i]? = some (.bx t ds) ∧ t = .l := by
  rw [hide_get] at h
  cases e : δ[i]? with
  | none => rw [e] at h; cases h
  | some s =>
    rw [e] at h
    have h : some (hideS s) = some (.bx t ds) := h
    cases s with
    | no => cases h
    | im d => cases h
    | fz d => cases h
    | raw v => cases h
    | mo v => cases h
    | bx u es =>
      cases u with
      | l => cases h; exact ⟨rfl, rfl⟩
      | o fs => cases h
      | d ks => cases h
theorem hide_go {K : PySem.W.Frag} {F : Ex} {σ : SS} {H : Hp} {Q : VK} (h : tD K (dHide F) σ H Q) : tD K F σ H Q := by
  obtain ⟨G, δ, r, δ', R, e, q⟩ := h
  obtain ⟨⟨r1, δ1⟩, e1, e⟩ := bind_some_of e
  cases e
  have own0 : ∀ {a : Addr}, Own σ (hide δ) a → Own σ δ a := by
    rintro a ⟨i, t, ds, h1, h2⟩
    exact ⟨i, t, ds, h1, (hide_bx h2).1⟩
  have R0 : Rel K G H σ (hide δ) := by
    refine ⟨R.sub, by rw [hide_len]; exact R.len, fun i s hs => ?_, fun i j p t u ds es h1 h2 h3 h4 => R.inj i j p t u ds es h1 (hide_bx h2).1 h3 (hide_bx h4).1, R.inv⟩
    rw [hide_get] at hs
    cases e : δ[i]? with
    | none => rw [e] at hs; cases hs
    | some s0 =>
      rw [e] at hs
      have hs : some (hideS s0) = some s := hs
      have := R.slot i s0 e
      cases s0 with
      | no => cases hs; trivial
      | im d => cases hs; exact this
      | fz d => cases hs; exact this
      | raw v => cases hs; exact this
      | mo v => cases hs; exact this
      | bx u es =>
        cases u with
        | l => cases hs; exact this
        | o fs => cases hs; trivial
        | d ks => cases hs; trivial
  refine ⟨G, _, r1, δ1, R0, e1, fun v G' H' R' st rv => ?_⟩
  have obj : ∀ {i : Nat} {fs : Bt} {ds : List PyData}, fs ≠ .l → δ[i]? = some (.bx fs ds) → ∃ p ws, σ[i]? = some (some (.ref p)) ∧ Bx H' p fs ws ∧ G' p = none ∧ RpAll K G' ws ds ∧ ¬ Own σ δ1 p ∧ H p ≠ none := fun {i fs ds} hfs hi => by
    obtain ⟨p, ws, k1, k2, k3, k4⟩ := R.bx hi
    have no : ¬ Own σ (hide δ) p := by
      rintro ⟨j, t, es, h1, h2⟩
      obtain ⟨h2, rfl⟩ := hide_bx h2
      have := R.inj i j p _ _ _ _ k1 hi h1 h2
      subst this
      rw [hi] at h2
      cases h2
      exact hfs rfl
    have nn := k2.not
    obtain ⟨o, g1, nv, kb⟩ := k2.at
    obtain ⟨z1, z2⟩ := st.keep p o g1 no
    refine ⟨p, ws, k1, kb _ (z1 fun z => nv z.1), ?_, k4.same st.same, z2, nn⟩
    cases hg : G' p with
    | none => rfl
    | some u =>
      rcases st.grow p u hg with z | z | z
      · rw [k3] at z; cases z
      · rw [g1] at z; cases z
      · exact absurd z no
  have own1 : ∀ {a : Addr}, Own σ (unh δ δ1) a → Own σ δ1 a ∨ (Own σ δ a ∧ H a ≠ none ∧ ¬ Own σ δ1 a) := by
    rintro a ⟨i, t, ds, h1, h2⟩
    rcases unh_get h2 with ⟨fs, es, z1, zn, z2⟩ | z
    · cases z1
      obtain ⟨p, ws, k1, _, _, _, k5, k6⟩ := obj zn z2
      rw [h1] at k1; cases k1
      exact .inr ⟨⟨i, _, _, h1, z2⟩, k6, k5⟩
    · exact .inl ⟨i, t, ds, h1, z⟩
  have Rn : Rel K G' H' σ (unh δ δ1) := by
    refine ⟨R'.sub, by rw [unh_len]; exact R'.len, fun i s hs => ?_, fun i j p t u ds es h1 h2 h3 h4 => ?_, R'.inv⟩
    · rcases unh_get hs with ⟨fs, es, z1, zn, z2⟩ | z
      · cases z1
        obtain ⟨p, ws, k1, k2, k3, k4, _⟩ := obj zn z2
        exact ⟨p, ws, by rw [k1]; rfl, k2, k3, k4⟩
      · exact R'.slot i s z
    · rcases unh_get h2 with ⟨fs, es1, z1, zn, z2⟩ | z
      · cases z1
        obtain ⟨p1, _, k1, _, _, _, k5, _⟩ := obj zn z2
        rw [h1] at k1; cases k1
        rcases unh_get h4 with ⟨fs2, es2, y1, yn, y2⟩ | y
        · cases y1
          exact R.inj i j p _ _ _ _ h1 z2 h3 y2
        · exact absurd ⟨j, u, es, h3, y⟩ k5
      · rcases unh_get h4 with ⟨fs2, es2, y1, yn, y2⟩ | y
        · cases y1
          obtain ⟨p1, _, k1, _, _, _, k5, _⟩ := obj yn y2
          rw [h3] at k1; cases k1
          exact absurd ⟨i, t, ds, h1, z⟩ k5
        · exact R'.inj i j p t u ds es h1 z h3 y
  refine q v G' H' Rn ⟨fun a o ha na => ?_, st.dom, st.same, fun a o ha => ?_⟩ ?_
  · obtain ⟨z1, z2⟩ := st.keep a o ha fun z => na (own0 z)
    refine ⟨z1, fun z => ?_⟩
    rcases own1 z with z | z
    · exact z2 z
    · exact na z.1
  · rcases st.grow a o ha with z | z | z
    · exact .inl z
    · exact .inr (.inl z)
    · exact .inr (.inr (own0 z))
  · dsimp only
    cases r1 with
    | no => exact rv
    | im d => exact rv
    | fz d => exact rv
    | raw d => exact rv
    | mo d => exact rv
    | bx t ds =>
      obtain ⟨p, ws, h1, h2, h3, h4, h5, h6⟩ := rv
      refine ⟨p, ws, h1, h2, h3, fun z => ?_, h5, h6⟩
      rcases own1 z with z | z
      · exact h4 z
      · exact z.2.1 h5
theorem de_hide {X : Cx} {e : Expr} {F : Ex} (h : DE X e F) : DE X e (dHide F) := PE.by h fun _ _ _ g => hide_go g
/-- a class body's statement -/
def cbody (s : Stmt) (i : Nat) : Stmt := match s with
  | .ClassDef _ _ _ body _ _ _ _ _ _ _ => body.getD i (.Pass ⟨0, 0, 0, 0⟩)
  | _ => .Pass ⟨0, 0, 0, 0⟩
/-- a method -/
structure MEnt (K : PySem.W.Frag) (m qual : Str) (st : Stmt) (ps : List Str) where
  f : Addr
  fd : FuncData
  fn : Fun K m qual st f fd
  mt : Meth K Memo.C m f
  bd : Binds K fd ps []
/-- a property -/
structure PEnt (K : PySem.W.Frag) (m qual : Str) (st : Stmt) (ps : List Str) where
  f : Addr
  p : Addr
  fd : FuncData
  fn : Fun K m qual st f fd
  pr : PropOf K Memo.C m p f
  bd : Binds K fd ps []
/-- __init__ -/
structure IEnt (K : PySem.W.Frag) (m qual : Str) (st : Stmt) (ps : List Str) where
  f : Addr
  fd : FuncData
  fn : Fun K m qual st f fd
  make : Mk K Memo.C f
  bd : Binds K fd ps []
omit [Memo] in
/-- the law that hands back True, where there is a class -/
theorem walkGC {l : PySem.W.OpenLaw} {n k : Nat} {q : Program} {loose : List Str} {XP : (Str → Option Value) → Heap → Prop} {YP : World → Heap → Prop} {d : DefRec} {K : Params → PySem.W.Frag} {x : Str} {f : Fn}
    (hn : l.most = some n) (hn2 : n ≤ sizeLine) (hdf : d.params.defaults = []) (hr : Room k callerA) (hY : ∀ (w : World) (h : Heap), YP w h → (K w.params).In h)
    (F : ∀ (w : World) (mg : Str → Option Value) (fa : Addr) (h : Heap), (K w.params).In h → h.Ns mainGlobals mg → mg d.name = some (.ref fa) → ∃ (C : Addr) (fd : FuncData), (∀ (s : Shared) (u : Value), BindsTo s fd ⟨[u], []⟩ [(x, u)]) ∧
        ∀ bs : Heap, (K w.params).In bs → bs.Ns mainGlobals mg → FnG l.prog w (K w.params) mg bs CX0 k fa fd [x] (@spD (plainAt C) (K w.params) 1 f))
    (hf : ∀ ns : List Int, ns.length ≤ n → ∃ as', f [.fz (ns.map PyData.int)] = some (.im (.bool true), as')) :
    PySem.W.WalkO q loose XP YP l.row.toRowW d [] (fun f vs => PySem.call f vs) := by
  refine Att.attach_call hn hdf fun w s0 s1 mg mb fa o pm cd doc a vs ns G Y ho hd hcd hmg hobj hints hlen hg => ?_
  have KX := hY w _ Y
  obtain ⟨C, fd, hb, hF⟩ := F w mg fa _ KX G.T.g hmg
  refine law_endG KX G.T.g G.T.b G.T.builtins G.T.nolimit hg hobj hints (Nat.le_trans hlen hn2) hr hF hb (fun H hO hS => ?_) fun _ _ _ z => z
  obtain ⟨as', e⟩ := hf ns hlen
  have RR : @Rel (plainAt C) (K w.params) H H ([V.ref a].map some) [.fz (ns.map PyData.int)] := by
    refine @Rel.mk (plainAt C) _ _ _ _ _ (Same.refl _) rfl (fun i s h => ?_) (fun i j p tt uu ds es h1 h2 => ?_) trivial
    · cases i with
      | zero =>
        cases h
        exact ⟨a, _, rfl, hS, RpAll.ofInts ns⟩
      | succ i => cases h
    · cases i with
      | zero => cases h2
      | succ i => cases h2
  refine ⟨rfl, H, [.fz (ns.map PyData.int)], _, as', RR, e, fun v G' H' R st rv => ?_⟩
  cases rv
  rfl
end CK
/-! methods and classes called by keywords alone, in the parameters' own order -/
namespace CK
open PySem PySem.Spec PyProof.Rows L2
variable [Memo]
omit [Memo] in
/-- how the keywords come behind self -/
structure KwM (K : PySem.W.Frag) (fd : FuncData) (ps ks : List Str) : Prop where
  to : ∀ (s : Shared) (u : Value) (ws : List Value), K.In s.heap → ws.length = ks.length → BindsTo s fd ⟨[u], ks.zip ws⟩ (ps.zip (u :: ws))
section
variable {X : Cx} {CT : CXT} {k : Nat} {f g C p : Addr} {fd : FuncData} {ps ks : List Str} {sp : Sp} {E : XK} {x m : Str} {np pos apos : Pos} {o : Expr} {kws : List Keyword} {ta : TE} {tk : TA}
theorem pe_methGK {pl : Sem Bool} (hgd : X.A.guards = some []) (he : PE X o ta) (c : Cls X.K C) (hm : Meth X.K C m f) (F : FnG X.prog X.w X.K X.mg X.base CT k f fd ps sp) (hr : Room k X.A) (hb : KwM X.K fd ps ks) (hx : Passes CT X E) (hkw : PK X kws tk)
    (hall : (backToKw pos (keywordEach kws X.env)).all (·.1.isSome) = true := by rfl) (hks : (backToKw pos (keywordEach kws X.env)).filterMap (·.1) = ks := by rfl)
    (hpl : ((backTo pos (starEach [] X.env)).any (·.1) || (backToKw pos (keywordEach kws X.env)).any (·.1.isNone)) = false := by rfl)
    (ht : eval (.Call (.Attribute o m apos) [] kws pos) X.env = (do
      let ov ← eval o X.env
      standAt apos.atName
      let (f, first) ← holding [ov] (getMethod ov m pl)
      callWith pos f first (backTo pos (starEach [] X.env)) (backToKw pos (keywordEach kws X.env))) := by rfl) :
    PE X (.Call (.Attribute o m apos) [] kws pos) (tMeth C m sp [] E ta (fun σ H Q => tk σ H fun zs H1 => zs.length = ks.length ∧ Q zs H1)) := by
  refine ⟨fun pins s σ H Q I h => ?_⟩
  refine PySem.W.methodCall_KW (pl := pl) (thn (he.run pins s σ H _ I h) fun u s1 ⟨x, H1, I1, rx, a, dx, fs, ex, ea, l, q⟩ => ?_) ht
  subst ex
  obtain rfl : u = Value.ref a := rx
  refine getmeth_ok I1 ea c hm l ?_
  refine PySem.W.callWith_KW0 (first := [.ref a]) (h₀ := X.base) I.ok.mod.kin hm.kp hall (thn (hkw.run pos pins s1 σ H1 _ I1 q) fun ws s2 ⟨zs, H2, I2, r, zl, q2⟩ => ⟨I2.kIn, ?_⟩) hpl
  have q2 : sp (.ref a :: (zs ++ [])) H2 Q E := q2
  rw [List.append_nil] at q2
  rw [hks]
  have wl : ws.length = ks.length := by rw [← r.length]; exact zl
  exact runG (args := ⟨[.ref a], ks.zip ws⟩) (ws := [.ref a] ++ []) hgd F hr hx I2 (hb.to s2 (.ref a) ws I2.kIn wl) (show Vals (V.ref a :: zs) (Value.ref a :: ws) from .cons rfl r) q2
theorem pe_makeGK (hgd : X.A.guards = some []) (M : Mk X.K C f) (F : FnG X.prog X.w X.K X.mg X.base CT k f fd ps sp) (hr : Room (k + 1) X.A) (hg : Gl X x) (hm : X.mg x = some (.ref C)) (hb : KwM X.K fd ps ks) (hx : Passes CT X E) (hkw : PK X kws tk)
    (hall : (backToKw pos (keywordEach kws X.env)).all (·.1.isSome) = true := by rfl) (hks : (backToKw pos (keywordEach kws X.env)).filterMap (·.1) = ks := by rfl) (hdb : (x == ("__debug__" : Str)) = false := by decide)
    (hpl : ((backTo pos (starEach [] X.env)).any (·.1) || (backToKw pos (keywordEach kws X.env)).any (·.1.isNone)) = false := by rfl) :
    PE X (.Call (.Name x np) [] kws pos) (tMake C sp [] E (fun σ H Q => tk σ H fun zs H1 => zs.length = ks.length ∧ Q zs H1)) := by
  refine ⟨fun pins s σ H Q I h => ?_⟩
  refine wpAny_Call_Name_kw (ld_glob I hg hm ?_ hdb)
  refine PySem.W.callWith_KW0 (h₀ := X.base) I.ok.mod.kin M.kp hall (thn (hkw.run pos pins s σ H _ I h) fun us s1 ⟨vs, H1, I1, r, zl, q⟩ => ⟨I1.kIn, ?_⟩) hpl
  have hq := q (s1.heap.objs.size + 1) s1.heap.objs.size (I1.hok.fresh (Nat.le_succ _)) (I1.hok.fresh (Nat.le_refl _)) (Nat.ne_of_lt (Nat.lt_succ_self _))
  have I2 := Inv.made (C := C) I1
  rw [List.append_nil] at hq
  rw [hks]
  have r2 : Vals (V.ref (s1.heap.objs.size + 1) :: vs) (Value.ref (s1.heap.objs.size + 1) :: us) := .cons rfl r
  have wl : us.length = ks.length := by rw [← r.length]; exact zl
  have hbs := hb.to _ (Value.ref (s1.heap.objs.size + 1)) us I2.kIn wl
  refine wpAny_call (make_map (f := f) I1.kIn M.makes M.init (beq_iff_eq.mp M.fn) (codeAny_mono (F.go _ X.stack _ _ ⟨[Value.ref (s1.heap.objs.size + 1)], ks.zip us⟩ (Value.ref (s1.heap.objs.size + 1) :: us) _ _ E (guards_make hgd) (hr.make C [] (ks.zip us))
    (I2.env0.make C [] (ks.zip us)) hbs r2 hq) fun r s' hq' => ?_))
  cases r with
  | error e => exact hx pins σ _ _ e s' I2 hq'
  | ok fl =>
    cases fl with
    | ret u =>
      obtain ⟨v, H', I3, rv, ev, q3⟩ := I2.after hq'
      subst ev
      exact ⟨rv, ⟨V.ref (s1.heap.objs.size + 1), H', I3, rfl, q3⟩⟩
    | next => exact False.elim hq'
    | brk => exact False.elim hq'
    | cont => exact False.elim hq'
end
section
variable {K : PySem.W.Frag} {X : Cx} {k n : Nat} {f : Addr} {fd : FuncData} {ps ks : List Str} {fn : Fn} {as : List Ag} {x m : Str} {px np pos apos : Pos} {kws : List Keyword}
theorem aw_len {G : Hp} {σ : SS} : ∀ {vs : List V} {as : List Ag} {ps : List (Option Sl)}, AW K G σ vs as ps → vs.length = as.length
  | [], [], [], _ => rfl
  | _ :: _, .io _ :: _, none :: _, h => congrArg (· + 1) (aw_len h.2)
  | _ :: _, .ex _ :: _, some _ :: _, h => congrArg (· + 1) (aw_len h.2)
theorem tAg_len {σ : SS} {H : Hp} {Q : List V → Hp → Prop} (h : tAg K as σ H Q) : tAg K as σ H fun zs H1 => zs.length = as.length ∧ Q zs H1 := by
  obtain ⟨G, δ, ps, δ', R, e, q⟩ := h
  exact ⟨G, δ, ps, δ', R, e, fun vs G1 H1 R1 st1 aw => ⟨aw_len aw, q vs G1 H1 R1 st1 aw⟩⟩
theorem de_methK [Still ‹Memo›] {pl : Sem Bool} (i : Nat) (hgd : X.A.guards = some []) (c : Cls X.K Memo.C) (hm : Meth X.K Memo.C m f) (F : FnG X.prog X.w X.K X.mg X.base CX0 k f fd ps (spD X.K n fn)) (hr : Room k X.A) (hb : KwM X.K fd ps ks) (ha : DK X kws as) (nd : (agI (.io i :: as)).Nodup := by decide) (hn : as.length + 1 = n := by rfl) (hk : as.length = ks.length := by rfl)
    (hall : (backToKw pos (keywordEach kws X.env)).all (·.1.isSome) = true := by rfl) (hks : (backToKw pos (keywordEach kws X.env)).filterMap (·.1) = ks := by rfl)
    (hpl : ((backTo pos (starEach [] X.env)).any (·.1) || (backToKw pos (keywordEach kws X.env)).any (·.1.isNone)) = false := by rfl)
    (hN : X.N[i]? = some x := by rfl) (hv : Vis X.env.scope x := by first | exact Or.inl rfl | exact Or.inr (Or.inl rfl) | exact Or.inr (Or.inr rfl)) (hd : (x == ("__debug__" : Str)) = false := by decide) (hcd : (x == ("__classdict__" : Str)) = false := by decide)
    (ht : eval (.Call (.Attribute (.Name x px) m apos) [] kws pos) X.env = (do
      let ov ← eval (.Name x px) X.env
      standAt apos.atName
      let (f, first) ← holding [ov] (getMethod ov m pl)
      callWith pos f first (backTo pos (starEach [] X.env)) (backToKw pos (keywordEach kws X.env))) := by rfl) :
    DE X (.Call (.Attribute (.Name x px) m apos) [] kws pos) (dMeth m fn i as) :=
  PE.by (pe_methGK (pl := pl) hgd (pe_var hN hv hd hcd) c hm F hr hb pass0 ha hall hks hpl ht) fun σ H Q h => by
    obtain ⟨v, k1, a, dx, fs, z1, z2, z3, t⟩ := meth_go (E := E0) nd hn h
    refine ⟨v, k1, a, dx, fs, z1, z2, z3, ?_⟩
    have := tAg_len t
    rw [hk] at this
    exact this
theorem de_makeK [Still ‹Memo›] (hgd : X.A.guards = some []) (M : Mk X.K Memo.C f) (F : FnG X.prog X.w X.K X.mg X.base CX0 k f fd ps (spD X.K n fn)) (hr : Room (k + 1) X.A) (hg : Gl X x) (hm : X.mg x = some (.ref Memo.C)) (hb : KwM X.K fd ps ks) (ha : DK X kws as) (hn : as.length + 1 = n := by rfl) (hk : as.length = ks.length := by rfl)
    (hall : (backToKw pos (keywordEach kws X.env)).all (·.1.isSome) = true := by rfl) (hks : (backToKw pos (keywordEach kws X.env)).filterMap (·.1) = ks := by rfl) (hdb : (x == ("__debug__" : Str)) = false := by decide)
    (hpl : ((backTo pos (starEach [] X.env)).any (·.1) || (backToKw pos (keywordEach kws X.env)).any (·.1.isNone)) = false := by rfl) :
    DE X (.Call (.Name x np) [] kws pos) (dMake fn as) :=
  PE.by (pe_makeGK hgd M F hr hg hm hb pass0 ha hall hks hdb hpl) fun σ H Q h => by
    have := tAg_len (make_go (E := E0) hn h)
    rw [hk] at this
    exact this
end

/-! ### len of an object by the class's own __len__ -/
section
variable {prog : Program} {w : World} {A : Around} {E : Value → Shared → Prop} {s : Shared} {K : PySem.W.Frag} {x C f : Addr} {ox : Obj} {od : Option Obj}
omit [Memo] in
theorem lenK {Q : Value → Shared → Prop} (X : K.In s.heap) (I : PySem.W.InstAt s.heap x ox C od) (hs : PySem.W.findIn K (.ref C) "__len__" = some (some (.ref f))) (hf : PySem.W.isFn K (.ref f) = true)
    (h : wpAny (model prog w) A.in1 (call (.ref f) [.ref x]) (PySem.W.LenBack Q) E s) : wpAny (model prog w) A (call (.builtin "len") [.ref x]) Q E s := by
  refine Calls.call_function_entry kind_len plain_len entry_len (args_len1 _) ?_
  unfold Builtin.«len»
  refine wpAny_bind (m := oneArg "len" _) (wpAny_pure ?_)
  refine wpAny_bind (m := callSpecial? (.ref x) (Str.ofString "__len__")) (PySem.W.special_fn X I hs (beq_iff_eq.mp hf) (wpAny_mono h (fun r s' hr => ?_) fun _ _ y => y))
  cases r <;> first | exact hr.elim | skip
  rename_i n u
  obtain ⟨⟨h0, h1⟩, hq⟩ := hr
  refine wpAny_bind (wpAny_holding (wpAny_pure ?_))
  refine wpAny_bind (wpAny_letGo ?_)
  show wpAny _ _ (if n < 0 then _ else _) _ _ _
  rw [if_neg (by omega)]
  show wpAny _ _ (if n ≥ 2 ^ 63 then _ else _) _ _ _
  rw [if_neg (by omega)]
  exact wpAny_bind (wpAny_mkInt (wpAny_pure ⟨_, rfl, hq⟩))
end
def rLenO (C : Addr) (sp : Sp) (E : XK) : List V → Hp → VK → Prop := fun xs H Q => ∃ a dx fs, xs = [.ref a] ∧ H a = some (.ins C dx fs) ∧ sp [.ref a] H (fun v H' => ∃ n : Int, v = .int n ∧ 0 ≤ n ∧ n < 2 ^ 63 ∧ Q (.int n) H') E
section
variable {X : Cx} {CT : CXT} {k : Nat} {f C : Addr} {fd : FuncData} {ps : List Str} {sp : Sp} {E : XK}
theorem call_lenO (hgd : X.A.guards = some []) (hm : Meth X.K C "__len__" f) (F : FnG X.prog X.w X.K X.mg X.base CT k f fd ps sp) (hr : Room (k + 1) X.A) (hb : Binds X.K fd ps []) (hx : Passes CT X.nox E) : CallR X (.builtin "len") (rLenO C sp E) := by
  intro pins s σ H xs us Q I r h
  obtain ⟨a, dx, fs, rfl, ea, h⟩ := h
  obtain ⟨u, rfl, rx⟩ := vals1 r
  obtain rfl : u = .ref a := rx
  obtain ⟨mA, O, _⟩ := ins_get I.hok ea
  obtain ⟨od, J, _⟩ := O.look
  refine lenK I.kIn J hm.at_ hm.fn ?_
  have hl : ([Value.ref a] ++ []).length = ps.length := by
    rw [← F.arity _ _ _ _ h]; rfl
  refine wpAny_call (codeAny_mono (F.go X.A.in1 X.stack s H ⟨[.ref a], []⟩ [.ref a] [.ref a] _ E (guards_in1 hgd) hr.in1 I.env0.in1 (hb _ [.ref a] I.kIn hl) (.cons rfl .nil) h) fun r s' hq => ?_)
  cases r with
  | error er => exact False.elim (hx pins σ H s er s' (I.wish _) hq)
  | ok fl =>
    cases fl with
    | ret u =>
      obtain ⟨v, H', I3, rv, q3⟩ := I.after hq
      obtain ⟨n, rfl, n0, n1, q3⟩ := q3
      obtain ⟨t, rfl⟩ := rv
      exact ⟨⟨n0, n1⟩, .int n, H', I3.tok _, ⟨_, rfl⟩, q3⟩
    | next => exact False.elim hq
    | brk => exact False.elim hq
    | cont => exact False.elim hq
end
def dLenO (fn : Fn) (i : Nat) : Ex := fun δ => (dMeth "__len__" fn i [] δ).bind fun y => match y.1 with
  | .im (.int n) => if 0 ≤ n ∧ n < 2 ^ 63 then some (.im (.int n), y.2) else none
  | _ => none
section
variable {X : Cx} {k : Nat} {f : Addr} {fd : FuncData} {ps : List Str} {fn : Fn} {x : Str} {px p pos : Pos}
theorem de_lenO [Still ‹Memo›] (i : Nat) (hgd : X.A.guards = some []) (hm : Meth X.K Memo.C "__len__" f) (F : FnG X.prog X.w X.K X.mg X.base CX0 k f fd ps (spD X.K 1 fn)) (hr : Room (k + 1) X.A) (hb : Binds X.K fd ps []) (hg : Gl X "len") (hml : X.mg "len" = none)
    (hN : X.N[i]? = some x := by rfl) (hv : Vis X.env.scope x := by first | exact Or.inl rfl | exact Or.inr (Or.inl rfl) | exact Or.inr (Or.inr rfl)) (hd : (x == ("__debug__" : Str)) = false := by decide) (hcd : (x == ("__classdict__" : Str)) = false := by decide)
    (hs : starEach [.Name x px] X.env = (false, eval (.Name x px) X.env) :: starEach [] X.env := by rfl) (hpl : (backTo pos (starEach [] X.env)).any (·.1) = false := by rfl) :
    DE X (.Call (.Name "len" p) [.Name x px] [] pos) (dLenO fn i) :=
  PE.by (pe_callB (call_lenO hgd hm F hr hb pass0) hg hml (by decide +kernel) (pa_cons (pe_var hN hv hd hcd) pa_nil hs) (by decide) (by decide) hs hpl) fun σ H Q h => by
    obtain ⟨G, δ, r, δ', R, e, q⟩ := h
    obtain ⟨⟨z, δ1⟩, e1, e⟩ := bind_some_of e
    obtain ⟨n, rfl, n0, n1, rfl, rfl⟩ : ∃ n : Int, z = .im (.int n) ∧ 0 ≤ n ∧ n < 2 ^ 63 ∧ r = .im (.int n) ∧ δ1 = δ' := by
      cases z with
      | im d =>
        cases d with
        | int n =>
          obtain ⟨hc, e⟩ := of_ite e
          cases e
          exact ⟨n, rfl, hc.1, hc.2, rfl, rfl⟩
        | _ => cases e
      | _ => cases e
    obtain ⟨v, k1, a, dx, fs, z1, z2, z3, G2, δ2, ps2, δ3, R2, e2, q2⟩ := meth_go (X := X) (E := E0) (n := 1) (as := []) (σ := σ) (i := i) (m := "__len__") (fn := fn) (Q := fun v H' => ∃ n : Int, v = .int n ∧ 0 ≤ n ∧ n < 2 ^ 63 ∧ Q (.int n) H') (by simp [agI]) rfl
      ⟨G, δ, _, _, R, e1, fun v G1 H1 R1 st rv => ⟨n, (by have rv : Rp X.K G1 v (.int n) := rv; cases rv; rfl), n0, n1, q (.int n) G1 H1 R1 st (.int n)⟩⟩
    cases e2
    have q3 := q2 [] G2 H R2 Stp.refl trivial
    subst z1
    exact ⟨_, k1, a, dx, fs, rfl, z2, q3⟩
end
end CK
/-! dicts of one's own: keys ints or texts -/
namespace CK
open PySem PySem.Spec PyProof.Rows L2
variable [Memo]

def keyOf : Sl → Option Key
  | .im (.int i) => some (.inl i)
  | .im (.str s) => some (.inr s)
  | _ => none
def dicS : Option Sl → Option (List Key × List PyData)
  | some (.bx (.d ks) ds) => some (ks, ds)
  | _ => none
def getQ (k : Key) : List Key → List PyData → Option PyData
  | g :: ks, d :: ds => if g = k then some d else getQ k ks ds
  | _, _ => none
def putQ (k : Key) (d : PyData) : List Key → List PyData → Option (List Key × List PyData)
  | [], [] => some ([k], [d])
  | g :: ks, x :: ds => if g = k then some (g :: ks, d :: ds) else (putQ k d ks ds).bind fun r => some (g :: r.1, x :: r.2)
  | _, _ => none
/-- {} -/
def dDicN : Ex := fun δ => some (.bx (.d []) [], δ)
/-- {k: v} -/
def dDic1 (Fk F : Ex) : Ex := fun δ => (Fk δ).bind fun x => (keyOf x.1).bind fun k => (F x.2).bind fun y => y.1.sh.bind fun d => some (.bx (.d [k]) [d], y.2)
/-- d[k] -/
def dDGet (i : Nat) (Fk : Ex) : Ex := fun δ => (dicS δ[i]?).bind fun _ => (Fk δ).bind fun x => (keyOf x.1).bind fun k => (dicS x.2[i]?).bind fun o => (getQ k o.1 o.2).bind fun d => some (.im d, x.2)
/-- k in d, k not in d -/
def dDIn (n : Bool) (Fk : Ex) (i : Nat) : Ex := fun δ => (Fk δ).bind fun x => (keyOf x.1).bind fun k => (dicS x.2[i]?).bind fun o => some (.im (.bool (n != (getQ k o.1 o.2).isSome)), x.2)
/-- d[k] = v -/
def sDPutD (i : Nat) (Fk F : Ex) : Sm := fun δ => (F δ).bind fun x => x.1.sh.bind fun d => (dicS x.2[i]?).bind fun _ => (Fk x.2).bind fun y => (keyOf y.1).bind fun k => (dicS y.2[i]?).bind fun o =>
  if o.1.Nodup ∧ o.1.length < LINE ∧ o.1.length = o.2.length then (putQ k d o.1 o.2).bind fun r => some (.nx, y.2.set i (.bx (.d r.1) r.2)) else none
def keysI : List Key → Option (List Int)
  | [] => some []
  | .inl i :: ks => (keysI ks).bind fun r => some (i :: r)
  | .inr _ :: _ => none
/-- sorted(d) -/
def dSortK (i : Nat) : Ex := fun δ => (dicS δ[i]?).bind fun o => (keysI o.1).bind fun ns => if ns.length < 64 ∧ o.1.length = o.2.length then some (.bx .l ((sortI ns).map PyData.int), δ) else none

theorem dicS_at {o : Option Sl} {z : List Key × List PyData} (h : dicS o = some z) : o = some (.bx (.d z.1) z.2) := by
  unfold dicS at h
  split at h
  · cases h; rfl
  · cases h
theorem keyOf_rv {K : PySem.W.Frag} {G H Hs : Hp} {σ : SS} {δ : List Sl} {v : V} {r : Sl} {k : Key} (h : RV K G H Hs σ δ v r) (e : keyOf r = some k) : v = kV k := by
  unfold keyOf at e
  split at e
  · cases e; cases h; rfl
  · cases e; cases h; rfl
  · cases e
section
variable {K : PySem.W.Frag} {G H : Hp} {k : Key}
theorem getQ_ok {d : PyData} : ∀ {ks : List Key} {ws : List V} {ds : List PyData}, RpAll K G ws ds → getQ k ks ds = some d → ∃ v, valV (ks.zip ws) k = some v ∧ Rp K G v d
  | [], _, _, _, h => by cases h
  | g :: ks, _, _, .nil, h => by cases h
  | g :: ks, v :: ws, x :: ds, .cons a b, h => by
    unfold getQ at h
    rw [List.zip_cons_cons]
    by_cases hg : g = k
    · rw [if_pos hg] at h; cases h
      exact ⟨v, valV_pos (p := (g, v)) hg, a⟩
    · rw [if_neg hg] at h
      obtain ⟨u, e, r⟩ := getQ_ok b h
      exact ⟨u, by rw [valV_neg (p := (g, v)) hg]; exact e, r⟩
theorem getQ_none : ∀ {ks : List Key} {ws : List V} {ds : List PyData}, RpAll K G ws ds → (valV (ks.zip ws) k).isSome = (getQ k ks ds).isSome
  | [], _, _, _ => rfl
  | g :: ks, _, _, .nil => rfl
  | g :: ks, v :: ws, x :: ds, .cons a b => by
    unfold getQ
    rw [List.zip_cons_cons]
    by_cases hg : g = k
    · rw [if_pos hg, valV_pos (p := (g, v)) hg]; rfl
    · rw [if_neg hg, valV_neg (p := (g, v)) hg]; exact getQ_none b
theorem putQ_ok {d : PyData} {v : V} (hv : Rp K G v d) : ∀ {ks : List Key} {ds : List PyData} {ws : List V} {r : List Key × List PyData}, (ks.Nodup) → RpAll K G ws ds → putQ k d ks ds = some r →
    ∃ ws', RpAll K G ws' r.2 ∧ r.1.zip ws' = putK (ks.zip ws) k v ∧ r.1.Nodup ∧ (∀ g, g ∈ r.1 → g = k ∨ g ∈ ks)
  | [], [], _, r, _, h, e => by
    cases h; cases e
    exact ⟨[v], .cons hv .nil, rfl, List.nodup_cons.mpr ⟨List.not_mem_nil, List.nodup_nil⟩, fun g hg => .inl (by simpa using hg)⟩
  | [], _ :: _, _, r, _, h, e => by cases e
  | _ :: _, [], _, r, _, h, e => by cases e
  | g :: ks, x :: ds, _, r, nd, .cons (v := w) (vs := ws) a b, e => by
    unfold putQ at e
    rw [List.zip_cons_cons]
    obtain ⟨n1, n2⟩ := List.nodup_cons.mp nd
    by_cases hg : g = k
    · rw [if_pos hg] at e; cases e
      refine ⟨v :: ws, .cons hv b, ?_, nd, fun y hy => .inr hy⟩
      have hm : ∀ (ks : List Key) (ws : List V), k ∉ ks → (ks.zip ws).map (fun kv => if kv.1 = k then (kv.1, v) else kv) = ks.zip ws := fun ks => by
        induction ks with
        | nil => intros; rfl
        | cons y ks ih =>
          intro ws hn
          cases ws with
          | nil => rfl
          | cons w ws =>
            rw [List.zip_cons_cons, List.map_cons, ih ws fun z => hn (List.mem_cons_of_mem _ z)]
            have hy : ¬ y = k := fun z => hn (by rw [z]; exact List.mem_cons_self)
            rw [if_neg (c := ((y, w) : Key × V).1 = k) hy]
      unfold putK
      have ha : ((((g, w) :: ks.zip ws).any fun kv => decide (kv.1 = k)) = true) := by rw [List.any_cons]; simp [hg]
      rw [if_pos ha, List.map_cons, hm ks ws (hg ▸ n1), List.zip_cons_cons, if_pos (c := ((g, w) : Key × V).1 = k) hg]
    · rw [if_neg hg] at e
      obtain ⟨r1, e1, e⟩ := bind_some_of e
      cases e
      obtain ⟨ws', k1, k2, k3, k4⟩ := putQ_ok hv n2 b e1
      refine ⟨w :: ws', .cons a k1, ?_, List.nodup_cons.mpr ⟨fun z => (k4 g z).elim hg n1, k3⟩, fun y hy => ?_⟩
      · rw [List.zip_cons_cons, k2]
        unfold putK
        rw [List.any_cons]
        have hd : decide (((g, w) : Key × V).1 = k) = false := decide_eq_false hg
        rw [hd, Bool.false_or]
        split
        · rw [List.map_cons, if_neg (c := ((g, w) : Key × V).1 = k) hg]
        · rfl
      · rcases List.mem_cons.mp hy with rfl | hy
        · exact .inr List.mem_cons_self
        · exact (k4 y hy).imp id (List.mem_cons_of_mem _)
theorem keysI_eq : ∀ {ks : List Key} {ns : List Int}, keysI ks = some ns → ks = ns.map Sum.inl
  | [], ns, h => by cases h; rfl
  | .inl i :: ks, ns, h => by
    obtain ⟨r, e, h⟩ := bind_some_of h
    cases h
    rw [List.map_cons, ← keysI_eq e]
  | .inr _ :: _, _, h => by cases h
end
section
variable {X : Cx} {P : List Nat} {x : Str} {p px pos pos' cpos : Pos} {e k : Expr} {F Fk : Ex}
theorem de_dicN : DE X (.Dict [] [] pos) dDicN := PE.by pe_dnewK fun σ H Q h => by
  obtain ⟨G, δ, r, δ', R, e, q⟩ := h
  cases e
  intro p hp
  exact q (.ref p) G _ (R.new hp) (Stp.new hp) ⟨p, [], rfl, show upd H p _ p = _ from upd_same, gfree R.sub hp, R.freeOwn hp, hp, .nil⟩
theorem de_dic1 (hk : DE X k Fk) (he : DE X e F) : DE X (.Dict [some k] [e] pos) (dDic1 Fk F) := PE.by (pe_disp (pps_cons hk he pps_nil) rfl rfl (fun z => nomatch z) (show 1 ≤ 15 by decide)) fun σ H Q h => by
  obtain ⟨G, δ, r, δ', R, e, q⟩ := h
  obtain ⟨⟨r1, δ1⟩, e1, e⟩ := bind_some_of e
  obtain ⟨ky, e2, e⟩ := bind_some_of e
  obtain ⟨⟨r3, δ3⟩, e3, e⟩ := bind_some_of e
  obtain ⟨d, e4, e⟩ := bind_some_of e
  cases e
  intro p hp
  have R0 : Rel X.K G (upd H p (.dK [])) σ δ := R.new hp
  refine tD_run R0 e1 fun v G1 H1 R1 st1 rv => tD_run R1 e3 fun w G2 H2 R2 st2 rv2 => ?_
  obtain ⟨G3, R3, st3, _, rp⟩ := RV.shared R2 st2 rv2 e4
  have stA := st1.trans st3
  have no : ¬ Own σ δ p := R.freeOwn hp
  have hd : H2 p = some (.dK []) := (stA.keep p _ upd_same no).1 fun z => (fun ⟨_, y⟩ => nomatch y : ¬ VolO (.dK [])) z.1
  have no3 : ¬ Own σ δ3 p := (stA.keep p _ upd_same no).2
  have hg3 : G3 p = none := by
    cases hx : G3 p with
    | none => rfl
    | some u =>
      rcases stA.grow p u hx with z | z | z
      · rw [gfree R.sub hp] at z; cases z
      · rw [upd_same] at z; cases z
      · exact absurd z no
  refine ⟨hd, [(ky, w)], by rw [List.map_cons, List.map_nil, ← keyOf_rv rv e2], (show 1 ≤ 15 by decide), ?_⟩
  have R4 : Rel X.K G3 (upd H2 p (.dK (mergeK [] [(ky, w)]))) σ δ3 := by
    refine ⟨fun b u z => ?_, R3.len, fun i s hs => (R3.slot i s hs).same (Same.refl _) (fun p2 t ws ds hs2 h1 h2 h3 => ⟨?_, h2⟩) (mSt (Same.refl _) gn_refl (stay_chg fun u z => by rw [hd] at z; cases z; exact .inr (.inr ⟨_, rfl⟩))), R3.inj, jC R3.inv fun u z => by rw [hd] at z; cases z; exact .inr (.inr ⟨_, rfl⟩)⟩
    · have : b ≠ p := fun y => by rw [y, hg3] at z; cases z
      rw [upd_ne this]; exact R3.sub _ _ z
    · have : p2 ≠ p := fun z => no3 ⟨i, t, ds, by rw [← z]; exact getD_some h3, by rw [hs, hs2]⟩
      exact h1.upd this
  have st4 : Stp σ δ G H σ δ3 G3 (upd H2 p (.dK (mergeK [] [(ky, w)]))) := by
    have stB := (Stp.new (σ := σ) (δ := δ) (G := G) (H := H) (o := .dK []) hp).trans stA
    refine ⟨fun b u z n => ⟨fun nv => ?_, (stB.keep b u z n).2⟩, fun b z => ?_, stB.same, stB.grow⟩
    · have : b ≠ p := fun y => by rw [y, hp] at z; cases z
      rw [upd_ne this]; exact (stB.keep b u z n).1 nv
    · by_cases y : b = p
      · rw [y]; exact hp
      · rw [upd_ne y] at z; exact stB.dom b z
  exact q (.ref p) G3 _ R4 st4 ⟨p, [w], rfl, show upd H2 p _ p = _ from upd_same, hg3, no3, hp, .cons rp .nil⟩
theorem de_dget (i : Nat) (hu : X.A.units + 64 < cLine) (hk : DE X k Fk) (hn : NoSl k := by intro _ _; rfl) (hN : X.N[i]? = some x := by rfl) (hv : Vis X.env.scope x := by first | exact Or.inl rfl | exact Or.inr (Or.inl rfl) | exact Or.inr (Or.inr rfl)) (hd : (x == ("__debug__" : Str)) = false := by decide)
    (hcd : (x == ("__classdict__" : Str)) = false := by decide) : DE X (.Subscript (.Name x px) k pos) (dDGet i Fk) := PE.by (pe_dget (by omega) (pe_var hN hv hd hcd) hk hn) fun σ H Q h => by
  obtain ⟨G, δ, r, δ', R, e, q⟩ := h
  obtain ⟨o0, e0, e⟩ := bind_some_of e
  obtain ⟨⟨r1, δ1⟩, e1, e⟩ := bind_some_of e
  obtain ⟨ky, e2, e⟩ := bind_some_of e
  obtain ⟨o, e3, e⟩ := bind_some_of e
  obtain ⟨d, e4, e⟩ := bind_some_of e
  cases e
  obtain ⟨p, ws, k1, _, _, _⟩ := R.bx (dicS_at e0)
  refine ⟨_, k1, tD_run R e1 fun v G1 H1 R1 st1 rv => ?_⟩
  obtain ⟨p', ws', k1', k2, _, k4⟩ := R1.bx (dicS_at e3)
  rw [k1] at k1'; cases k1'
  obtain ⟨u, g1, g2⟩ := getQ_ok k4 e4
  exact ⟨p, u, rfl, .inl ⟨_, ky, .inl k2, keyOf_rv rv e2, g1.symm⟩, q u G1 H1 R1 st1 g2⟩
theorem dnin_go {σ : SS} {H : Hp} {Q : VK} {i : Nat} (h : tD X.K (dDIn true Fk i) σ H Q) : tDNotIn (tD X.K Fk) (tVar i) σ H Q := by
  obtain ⟨G, δ, r, δ', R, e, q⟩ := h
  obtain ⟨⟨r1, δ1⟩, e1, e⟩ := bind_some_of e
  obtain ⟨ky, e2, e⟩ := bind_some_of e
  obtain ⟨o, e3, e⟩ := bind_some_of e
  cases e
  refine tD_run R e1 fun v G1 H1 R1 st1 rv => ?_
  obtain ⟨p, ws, k1, k2, _, k4⟩ := R1.bx (dicS_at e3)
  refine ⟨_, k1, p, _, rfl, .inl ⟨_, ky, .inl k2, keyOf_rv rv e2, rfl⟩, ?_⟩
  rw [getQ_none k4]
  have := q (.bl (!(getQ ky o.1 o.2).isSome)) G1 H1 R1 st1
  revert this
  cases (getQ ky o.1 o.2).isSome <;> exact fun h => h (.bl _)
theorem din_go {σ : SS} {H : Hp} {Q : VK} {i : Nat} (h : tD X.K (dDIn false Fk i) σ H Q) : tDIn (tD X.K Fk) (tVar i) σ H Q := by
  obtain ⟨G, δ, r, δ', R, e, q⟩ := h
  obtain ⟨⟨r1, δ1⟩, e1, e⟩ := bind_some_of e
  obtain ⟨ky, e2, e⟩ := bind_some_of e
  obtain ⟨o, e3, e⟩ := bind_some_of e
  cases e
  refine tD_run R e1 fun v G1 H1 R1 st1 rv => ?_
  obtain ⟨p, ws, k1, k2, _, k4⟩ := R1.bx (dicS_at e3)
  refine ⟨_, k1, p, _, rfl, .inl ⟨_, ky, .inl k2, keyOf_rv rv e2, rfl⟩, ?_⟩
  rw [getQ_none k4]
  have := q (.bl ((getQ ky o.1 o.2).isSome)) G1 H1 R1 st1
  revert this
  cases (getQ ky o.1 o.2).isSome <;> exact fun h => h (.bl _)
theorem de_dnin (i : Nat) (hu : X.A.units + 64 < cLine) (hk : DE X k Fk) (hN : X.N[i]? = some x := by rfl) (hv : Vis X.env.scope x := by first | exact Or.inl rfl | exact Or.inr (Or.inl rfl) | exact Or.inr (Or.inr rfl)) (hd : (x == ("__debug__" : Str)) = false := by decide)
    (hcd : (x == ("__classdict__" : Str)) = false := by decide) : DE X (.Compare k [.NotIn] [.Name x px] pos) (dDIn true Fk i) := PE.by (pe_cmp (pc_dnotin (by omega) hk (pe_var hN hv hd hcd))) fun σ H Q h => dnin_go h
theorem de_din (i : Nat) (hu : X.A.units + 64 < cLine) (hk : DE X k Fk) (hN : X.N[i]? = some x := by rfl) (hv : Vis X.env.scope x := by first | exact Or.inl rfl | exact Or.inr (Or.inl rfl) | exact Or.inr (Or.inr rfl)) (hd : (x == ("__debug__" : Str)) = false := by decide)
    (hcd : (x == ("__classdict__" : Str)) = false := by decide) : DE X (.Compare k [.In] [.Name x px] pos) (dDIn false Fk i) := PE.by (pe_cmp (pc_din (by omega) hk (pe_var hN hv hd hcd))) fun σ H Q h => din_go h
theorem tt_of {F : Ex} {σ : SS} {H : Hp} {Q : Bool → Hp → Prop} (h : tT X.K (tOfE F) σ H Q) : tD X.K F σ H fun v H1 => ∃ b, v = .bl b ∧ Q b H1 := by
  obtain ⟨G, δ, b, δ', R, e, q⟩ := h
  obtain ⟨⟨r1, δ1⟩, e1, e⟩ := bind_some_of e
  obtain ⟨b1, e2, e⟩ := bind_some_of e
  cases e
  exact tD_run R e1 fun v G' H' R' st rv => ⟨b, bool_rv rv e2, q G' H' R' st⟩
theorem dt_dnin (i : Nat) (hu : X.A.units + 64 < cLine) (hk : DE X k Fk) (hN : X.N[i]? = some x := by rfl) (hv : Vis X.env.scope x := by first | exact Or.inl rfl | exact Or.inr (Or.inl rfl) | exact Or.inr (Or.inr rfl)) (hd : (x == ("__debug__" : Str)) = false := by decide)
    (hcd : (x == ("__classdict__" : Str)) = false := by decide) : DT X (.Compare k [.NotIn] [.Name x px] pos) (tOfE (dDIn true Fk i)) := PT.by (pt_cmp (pc_dnotin (by omega) hk (pe_var hN hv hd hcd))) fun σ H Q h => dnin_go (tt_of h)
theorem dt_din (i : Nat) (hu : X.A.units + 64 < cLine) (hk : DE X k Fk) (hN : X.N[i]? = some x := by rfl) (hv : Vis X.env.scope x := by first | exact Or.inl rfl | exact Or.inr (Or.inl rfl) | exact Or.inr (Or.inr rfl)) (hd : (x == ("__debug__" : Str)) = false := by decide)
    (hcd : (x == ("__classdict__" : Str)) = false := by decide) : DT X (.Compare k [.In] [.Name x px] pos) (tOfE (dDIn false Fk i)) := PT.by (pt_cmp (pc_din (by omega) hk (pe_var hN hv hd hcd))) fun σ H Q h => din_go (tt_of h)
theorem ds_dput (i : Nat) (hu : X.A.units + 64 < cLine) (he : DE X e F) (hk : DE X k Fk) (hN : X.N[i]? = some x := by rfl) (hv : Vis X.env.scope x := by first | exact Or.inl rfl | exact Or.inr (Or.inl rfl) | exact Or.inr (Or.inr rfl)) (hd : (x == ("__debug__" : Str)) = false := by decide)
    (hcd : (x == ("__classdict__" : Str)) = false := by decide) (hs : swapsWith e (some (.Subscript (.Name x px) k pos')) pos.line X.env = pure false := by rfl) : DS X P (.Assign [.Subscript (.Name x px) k pos'] e pos) (sDPutD i Fk F) :=
  PS.by (ps_dput (by omega) (pe_var hN hv hd hcd) hk he hs) fun D σ H h => by
  obtain ⟨G, δ, fl, δ', R, e, q⟩ := h
  obtain ⟨⟨r1, δ1⟩, e1, e⟩ := bind_some_of e
  obtain ⟨d, e2, e⟩ := bind_some_of e
  obtain ⟨o0, e3, e⟩ := bind_some_of e
  obtain ⟨⟨r4, δ4⟩, e4, e⟩ := bind_some_of e
  obtain ⟨ky, e5, e⟩ := bind_some_of e
  obtain ⟨o, e6, e⟩ := bind_some_of e
  obtain ⟨⟨nd, hl, hl2⟩, e⟩ := of_ite0 e
  obtain ⟨r, e7, e⟩ := bind_some_of e
  cases e
  refine tD_run R e1 fun v G1 H1 R1 st1 rv => ?_
  obtain ⟨G2, R2, st2, _, rp⟩ := RV.shared R1 st1 rv e2
  obtain ⟨p, ws0, k0, _, _, _⟩ := R2.bx (dicS_at e3)
  refine ⟨_, k0, tD_run R2 e4 fun w G3 H3 R3 st3 rv3 => ?_⟩
  have hi := dicS_at e6
  obtain ⟨p', ws, k1, k2, k3, k4⟩ := R3.bx hi
  rw [k0] at k1; cases k1
  obtain ⟨ws', j1, j2, j3, _⟩ := putQ_ok (rp.same st3.same) nd k4 e7
  obtain ⟨R4, st4⟩ := R3.writeB (t' := .d r.1) (o := .dK (putK (o.1.zip ws) ky v)) hi k0 (show upd H3 p _ p = _ from by rw [upd_same, j2]) j1
  refine ⟨p, _, rfl, .inl ⟨_, ky, k2, keyOf_rv rv3 e5, ?_, rfl⟩, q σ G3 _ R4 ((st2.trans st3).trans st4) Pin.refl⟩
  rw [List.length_zip]
  exact Nat.lt_of_le_of_lt (Nat.min_le_left _ _) hl
theorem de_sortk (i : Nat) (hcalm : X.calm = true) (hg : Gl X "sorted") (hm : X.mg "sorted" = none) (hN : X.N[i]? = some x := by rfl) (hv : Vis X.env.scope x := by first | exact Or.inl rfl | exact Or.inr (Or.inl rfl) | exact Or.inr (Or.inr rfl)) (hd : (x == ("__debug__" : Str)) = false := by decide)
    (hcd : (x == ("__classdict__" : Str)) = false := by decide) (hs : starEach [.Name x px] X.env = (false, eval (.Name x px) X.env) :: starEach [] X.env := by rfl) (hpl : (backTo cpos (starEach [] X.env)).any (·.1) = false := by rfl) :
    DE X (.Call (.Name "sorted" p) [.Name x px] [] cpos) (dSortK i) := PE.by (pe_callB (call_sortedDI hcalm) hg hm (by decide +kernel) (pa_cons (pe_var hN hv hd hcd) pa_nil hs) (by decide) (by decide) hs hpl) fun σ H Q h => by
  obtain ⟨G, δ, r, δ', R, e, q⟩ := h
  obtain ⟨o, e1, e⟩ := bind_some_of e
  obtain ⟨ns, e2, e⟩ := bind_some_of e
  obtain ⟨⟨h64, hl⟩, e⟩ := of_ite e
  cases e
  obtain ⟨p, ws, k1, k2, k3, k4⟩ := R.bx (dicS_at e1)
  have ke := keysI_eq e2
  refine ⟨_, k1, p, _, ns, rfl, .inl k2, ?_, h64, fun ys p' hp hs hn => ?_⟩
  · rw [List.map_fst_zip (by rw [k4.length, hl]; exact Nat.le_refl _), ke]
  · have : ys = sortI ns := sorted_unique (hp.trans (sortI_perm ns).symm) hs (sortI_sorted ns)
    subst this
    exact q _ G _ (R.new hn) (Stp.new hn) ⟨p', _, rfl, show upd H p' _ p' = _ from upd_same, gfree R.sub hn, R.freeOwn hn, hn, RpAll.ofInts _⟩
end
end CK
/-! dicts that are shared: a table of rows -/
namespace CK
open PySem PySem.Spec PyProof.Rows L2
variable [Memo]

abbrev dicP (ks : List Key) (ds : List PyData) : PyData := .dict ((ks.map keyP).zip ds)
section
variable {K : PySem.W.Frag} {G G' H H' : Hp} {σ : SS} {δ : List Sl}
/-- the slot of a dict of its own is only shared from now on -/
theorem Rel.freezeD (R : Rel K G H σ δ) {i : Nat} {ks : List Key} {ds : List PyData} (e : δ[i]? = some (.bx (.d ks) ds)) :
    ∃ p ws, σ[i]? = some (some (.ref p)) ∧ H p = some (.dK (ks.zip ws)) ∧ Rel K (upd G p (.dK (ks.zip ws))) H σ (δ.set i (.im (dicP ks ds))) ∧ Same G (upd G p (.dK (ks.zip ws))) ∧ Rp K (upd G p (.dK (ks.zip ws))) (.ref p) (dicP ks ds) ∧ Stp σ δ G H σ (δ.set i (.im (dicP ks ds))) (upd G p (.dK (ks.zip ws))) H := by
  obtain ⟨p, ws, e1, h1, h2, r⟩ := R.bx e
  have sg : Same G (upd G p (.dK (ks.zip ws))) := same_upd_new h2
  have hl : i < δ.length := (List.getElem?_eq_some_iff.mp e).1
  have hO : ∀ a, Own σ (δ.set i (.im (dicP ks ds))) a → Own σ δ a ∧ a ≠ p := by
    rintro a ⟨j, t, es, q1, q2⟩
    by_cases hj : j = i
    · subst hj; rw [List.getElem?_set_self hl] at q2; cases q2
    · rw [List.getElem?_set_ne (Ne.symm hj)] at q2
      refine ⟨⟨j, t, es, q1, q2⟩, fun z => ?_⟩
      rw [z] at q1
      exact hj (R.inj j i p t (.d ks) es ds q1 q2 e1 e)
  have rp : Rp K (upd G p (.dK (ks.zip ws))) (.ref p) (dicP ks ds) := .dic upd_same (r.same sg)
  refine ⟨p, ws, e1, h1, ⟨fun b u q => ?_, by simpa using R.len, fun j s q => ?_, fun a b c tt uu d1 d2 q1 q2 q3 q4 => ?_, jG R.inv sg⟩, sg, rp, ⟨fun a o q n => ⟨fun _ => q, fun z => n (hO a z).1⟩, fun a q => q, sg, fun a o q => ?_⟩⟩
  · by_cases hb : b = p
    · subst hb; rw [upd_same] at q; cases q; exact h1
    · rw [upd_ne hb] at q; exact R.sub _ _ q
  · by_cases hj : j = i
    · subst hj
      rw [List.getElem?_set_self hl] at q; cases q
      exact ⟨.ref p, by rw [e1]; rfl, rp⟩
    · rw [List.getElem?_set_ne (Ne.symm hj)] at q
      cases s with
      | no => trivial
      | im d => obtain ⟨v, e2, r2⟩ := R.slot j _ q; exact ⟨v, e2, r2.same sg⟩
      | bx t es =>
        obtain ⟨p2, ws2, e2, k1, k2, r2⟩ := R.slot j _ q
        refine ⟨p2, ws2, e2, k1, ?_, r2.same sg⟩
        have : p2 ≠ p := fun z => hj (R.inj j i p t (.d ks) es ds (by rw [← z]; exact getD_some e2) q e1 e)
        rw [upd_ne this]; exact k2
      | fz es => obtain ⟨p2, ws2, e2, k1, r2⟩ := R.slot j _ q; exact ⟨p2, ws2, e2, Same.seq sg k1, r2.same sg⟩
      | raw v => exact R.slot j _ q
      | mo x => obtain ⟨p2, e2, m⟩ := R.slot j _ q; exact ⟨p2, e2, Memo.mst m sg (gn_share h1 (fun ⟨_, e⟩ => nomatch e)) stay_refl⟩
  · have ne : ∀ {x : Nat} {t : Bt} {es : List PyData}, (δ.set i (.im (dicP ks ds)))[x]? = some (.bx t es) → δ[x]? = some (.bx t es) := fun {x t es} z => by
      by_cases hx : x = i
      · subst hx; rw [List.getElem?_set_self hl] at z; cases z
      · rw [List.getElem?_set_ne (Ne.symm hx)] at z; exact z
    exact R.inj a b c tt uu d1 d2 q1 (ne q2) q3 (ne q4)
  · by_cases ha : a = p
    · rw [ha]; exact .inr (.inr ⟨i, .d ks, ds, e1, e⟩)
    · rw [upd_ne ha] at q; exact .inl q
end
/-- a name that holds a dict of its own, from now on shared -/
def dDFrz (i : Nat) : Ex := fun δ => (dicS δ[i]?).bind fun o => some (.im (dicP o.1 o.2), δ.set i (.im (dicP o.1 o.2)))
/-- look-up in a dict that is shared -/
def lkD : List (PyData × PyData) → Int → Option PyData
  | [], _ => none
  | (.int j, d) :: r, i => if j = i then some d else lkD r i
  | _ :: r, i => lkD r i
def ixkD : PyData → PyData → Option Sl
  | .dict kvs, .int i => (lkD kvs i).bind fun d => some (.im d)
  | d, e => ixD d e
section
variable {K : PySem.W.Frag} {G H : Hp}
theorem Rp.dict_inv {v : V} {kvs : List (PyData × PyData)} (h : Rp K G v (.dict kvs)) : (∃ (a : Addr) (ks : List Key) (xs : List V) (ds : List PyData), v = .ref a ∧ kvs = (ks.map keyP).zip ds ∧ G a = some (.dK (ks.zip xs)) ∧ RpAll K G xs ds) ∨ ∀ i, lkD kvs i = none := by
  generalize hd : PyData.dict kvs = d at h
  cases h with
  | dic e r => injection hd with e2; exact .inl ⟨_, _, _, _, rfl, e2, e, r⟩
  | exn => injection hd with e2; subst e2; exact .inr fun _ => rfl
  | exf => injection hd with e2; subst e2; exact .inr fun _ => rfl
  | _ => cases hd
theorem lkD_ok {i : Int} {d : PyData} : ∀ {ks : List Key} {ws : List V} {ds : List PyData}, RpAll K G ws ds → lkD ((ks.map keyP).zip ds) i = some d → ∃ v, valV (ks.zip ws) (Sum.inl i) = some v ∧ Rp K G v d
  | [], _, _, _, h => by cases h
  | g :: ks, _, _, .nil, h => by cases h
  | .inl j :: ks, v :: ws, x :: ds, .cons a b, h => by
    rw [List.map_cons, List.zip_cons_cons] at h
    have h : (if j = i then some x else lkD ((ks.map keyP).zip ds) i) = some d := h
    rw [List.zip_cons_cons]
    by_cases hg : j = i
    · rw [if_pos hg] at h; cases h
      exact ⟨v, valV_pos (p := (Sum.inl j, v)) (by rw [hg]), a⟩
    · rw [if_neg hg] at h
      obtain ⟨u, e, r⟩ := lkD_ok b h
      exact ⟨u, by rw [valV_neg (p := (Sum.inl j, v)) (fun z => hg (Sum.inl.inj z))]; exact e, r⟩
  | .inr j :: ks, v :: ws, x :: ds, .cons a b, h => by
    rw [List.map_cons, List.zip_cons_cons] at h
    have h : lkD ((ks.map keyP).zip ds) i = some d := h
    rw [List.zip_cons_cons]
    obtain ⟨u, e, r⟩ := lkD_ok b h
    have hn : ¬ ((Sum.inr j, v) : Key × V).1 = Sum.inl i := fun z => by cases z
    exact ⟨u, by rw [valV_neg hn]; exact e, r⟩
end
section
variable {X : Cx} {x : Str} {px pos : Pos} {a b : Expr} {oa ob : Od}
theorem de_dfrz (i : Nat) (hN : X.N[i]? = some x := by rfl) (hv : Vis X.env.scope x := by first | exact Or.inl rfl | exact Or.inr (Or.inl rfl) | exact Or.inr (Or.inr rfl)) (hd : (x == ("__debug__" : Str)) = false := by decide)
    (hcd : (x == ("__classdict__" : Str)) = false := by decide) : DE X (.Name x px) (dDFrz i) := by
  refine PE.by (pe_var hN hv hd hcd) fun σ H Q h => ?_
  obtain ⟨G, δ, r, δ', R, e, q⟩ := h
  obtain ⟨o, e0, e⟩ := bind_some_of e
  cases e
  obtain ⟨p, ws, e1, h1, R', sg, rp, st⟩ := R.freezeD (dicS_at e0)
  exact ⟨_, e1, q _ _ H R' st rp⟩
def rIxD : R2 := fun x y H Q => ∃ (a : Addr) (v : V), x = .ref a ∧ DGet H a y (some v) ∧ Q v H
theorem ix_dict (hu : X.A.units + 1 < cLine) : IxR X rIxD := by
  intro value slice pins s σ H x y v u Q I rx ry h hs
  obtain ⟨a, w, rfl, g, q⟩ := h
  obtain rfl : v = Value.ref a := rx
  exact tail_any (dict_typeIs I g) PySem.F.slot_dict_getitem.lookup (d_getItem hu I g ry fun w' s3 I3 rw' => ⟨w, H, I3, rw', q⟩) hs
theorem de_ixk (hu : X.A.units + 64 < cLine) (ha : DO X a oa) (hb : DO X b ob) (hs : PlainIx b := by exact fun _ _ => rfl) : DE X (.Subscript a b pos) (dOp2 ixkD oa ob) :=
  PE.by (pe_ix (IxR.or ix_seq (ix_dict (by omega))) ha.pe hb.pe hs) fun σ H Q h => od2 h fun G H1 δ v w d e z R r1 r2 e3 q => by
    unfold ixkD at e3
    split at e3
    · rename_i kvs i
      obtain ⟨d, e4, e5⟩ := bind_some_of e3
      cases e5
      have r1 : Rp X.K G v (.dict kvs) := by
        rcases r1 with r | ⟨p, ws, ds', _, z, _, _⟩
        · exact r
        · cases z
      rcases r1.dict_inv with ⟨a, ks, xs, ds, rfl, rfl, hg, ra⟩ | hno
      rotate_left
      · rw [hno i] at e4; cases e4
      obtain ⟨u, e6, rp⟩ := lkD_ok ra e4
      rw [r2.int]
      exact .inr ⟨a, u, rfl, .inl ⟨_, .inl i, .inl (R.sub _ _ hg), rfl, e6.symm⟩, Want.im q R rp⟩
    · unfold ixD at e3
      split at e3
      · obtain ⟨d, e4, e5⟩ := bind_some_of e3
        cases e5
        obtain ⟨p, ws, rfl, h1, ra⟩ := r1.lst R.sub
        obtain ⟨u, e6, rp⟩ := atI_rp ra e4
        exact .inl (.inl ⟨p, ws, _, u, rfl, r2.int, SqL.of h1, e6, Want.im q R rp⟩)
      · obtain ⟨d, e4, e5⟩ := bind_some_of e3
        cases e5
        obtain ⟨p, ws, rfl, h1, ra⟩ := r1.tup R.sub
        obtain ⟨u, e6, rp⟩ := atI_rp ra e4
        exact .inl (.inr (.inl ⟨p, ws, _, u, rfl, r2.int, h1, e6, Want.im q R rp⟩))
      · obtain ⟨hc, e3⟩ := of_ite0 e3
        obtain ⟨c, e4, e5⟩ := bind_some_of e3
        cases e5
        exact .inl (.inr (.inr ⟨_, _, c, r1.str, r2.int, hc, e4, Want.str q R⟩))
      · cases e3
end
/-- two names at once, by the tuple (a name may be a cell) -/
theorem ds_parC {X : Cx} {P : List Nat} {i j : Nat} {x y : Str} {a b : Expr} {F1 F2 : Ex} {px py pt pos : Pos} {kt k2 pt2} (hc : X.calm = true) (hN : X.N.Nodup) (hi : X.N[i]? = some x) (hj : X.N[j]? = some y)
    (hx : Loc X.env.scope x) (hy : Loc X.env.scope y) (ha : DEs X [a, b] [F1, F2]) (fx : X.fn x = true ∨ X.env.scope.names.lookup x = some .local) (fy : X.fn y = true ∨ X.env.scope.names.lookup y = some .local)
    (hpi : P.contains i = false := by rfl) (hpj : P.contains j = false := by rfl)
    (hs : swapsWithSole [.Tuple [.Name x px, .Name y py] kt pt] (.Tuple [a, b] k2 pt2) pos.line X.env = pure false := by rfl) (hsw : swappedStores [.Tuple [.Name x px, .Name y py] kt pt] (.Tuple [a, b] k2 pt2) X.env = pure none := by rfl)
    (h1 : (assignEach [.Tuple [.Name x px, .Name y py] kt pt] X.env).map (·.2) = [assign (.Tuple [.Name x px, .Name y py] kt pt) X.env] := by rfl) :
    DS X P (.Assign [.Tuple [.Name x px, .Name y py] kt pt] (.Tuple [a, b] k2 pt2) pos) (sPar i j F1 F2) :=
  PS.by (ps_asg (pe_tup ha) (pg_tup (n := 2) hc (pgs_cons (pg_name hN hi hx fx) (pgs_cons (pg_name hN hj hy fy) pgs_nil))) hs hsw h1) fun D σ H hh => by
  obtain ⟨G, δ, fl, δ', R, e, q⟩ := hh
  obtain ⟨⟨r1, δ1⟩, e1, e⟩ := bind_some_of e
  obtain ⟨⟨r2, δ2⟩, e2, e⟩ := bind_some_of e
  cases e
  refine ⟨G, δ, [r1, r2], δ2, R, by simp only [esE, e1, e2, Option.bind_some], fun vs G1 H1 R1 st1 ra => ?_⟩
  match vs, ra with
  | [v, w], ⟨rv1, Hm, m1, m2, rv2, _, _, _, _⟩ =>
    refine ⟨by show 2 ≤ sizeLine; rw [sizeLine_eq]; decide, fun t ht => ?_⟩
    have R2 : Rel X.K G1 (upd H1 t (.tup [v, w])) σ δ2 := R1.new ht
    have st2 : Stp σ δ2 G1 H1 σ δ2 G1 (upd H1 t (.tup [v, w])) := Stp.new ht
    have stA := st1.trans st2
    replace rv1 := rv1.step st2
    replace rv2 := rv2.step st2
    have A := R2.set (i := i) rv1.slot.1 fun p t ds e1 e2 => (rv1.slot.2 p t ds e1 e2).1
    have B := A.set (i := j) rv2.slot.1 fun p t ds e1 e2 z => by
      rcases own_set R2.len z with z | ⟨z, u', es, e3⟩
      · exact (rv2.slot.2 p t ds e1 e2).1 z
      · exact m2 p u' es e3 z (rv2.slot.2 p t ds e1 e2).2
    refine ⟨t, [v, w], rfl, SqT.of upd_same, rfl, v, _, rfl, w, _, rfl, rfl, ?_⟩
    exact q _ G1 _ B (Stp.setR A (Stp.setR R2 stA fun p t ds e1 e2 => (rv1.slot.2 p t ds e1 e2).2) fun p t ds e1 e2 => m1 _ (rv2.slot.2 p t ds e1 e2).2) ((Pin.set hpi).trans (Pin.set hpj))
/-- a list taken apart -/
def tgTL (t : List PyData → List Sl → Option (List Sl)) : Tg := fun d δ => match d with
  | .list ds => t ds δ
  | _ => none
theorem dg_lst {X : Cx} {P : List Nat} {es : List Expr} {pos : Pos} {u : List PyData → List Sl → Option (List Sl)} {k : Nat} {n : Nat} (hc : X.calm = true) (h : PGs X es (tGs X.K P u)) (hl : ∀ ds δ δ', u ds δ = some δ' → ds.length = n) (hn : (assignEach es X.env).length = n := by rfl) (hst : (assignEach es X.env).findIdx? (·.1) = none := by rfl) :
    PG X (.Tuple es k pos) (tG X.K P (tgTL u)) := PG.by (pg_lst hc h hn hst) fun v σ H Q h => by
  obtain ⟨G, δ, d, δ', R, r, e, q⟩ := h
  unfold tgTL at e
  split at e
  · rename_i ds
    cases r with
    | lst hq ra => exact ⟨_, _, rfl, SqL.of (R.sub _ _ hq), by rw [ra.length]; exact hl ds δ δ' e, G, δ, ds, δ', R, ra, e, q⟩
  · cases e
/-- lists of ints, compared by < -/
def eqAtI (ns ms : List Int) (j : Nat) : Bool := decide (ns.getD j 0 = ms.getD j 0)
def ltAtI (ns ms : List Int) (j : Nat) : Bool := decide (ns.getD j 0 < ms.getD j 0)
theorem firstLt_mapI (e r : Nat → Bool) (fin : Bool) (f : Nat → Nat) : ∀ l : List Nat, PySem.SeqAt.firstLt e r fin (l.map f) = PySem.SeqAt.firstLt (fun j => e (f j)) (fun j => r (f j)) fin l
  | [] => rfl
  | j :: l => by
    rw [List.map_cons]
    show (if e (f j) = true then _ else _) = (if e (f j) = true then _ else _)
    rw [firstLt_mapI e r fin f l]
theorem firstLt_ints : ∀ ns ms : List Int, PySem.SeqAt.firstLt (eqAtI ns ms) (ltAtI ns ms) (decide (ns.length < ms.length)) (List.range (min ns.length ms.length)) = HT.lexLt ns ms
  | [], [] => rfl
  | [], _ :: _ => by
    show PySem.SeqAt.firstLt _ _ (decide (0 < _ + 1)) (List.range (min 0 _)) = true
    rw [Nat.zero_min]
    exact decide_eq_true (Nat.succ_pos _)
  | _ :: _, [] => by
    show PySem.SeqAt.firstLt _ _ (decide (_ + 1 < 0)) (List.range (min _ 0)) = false
    rw [Nat.min_zero]
    exact decide_eq_false (Nat.not_lt_zero _)
  | n :: ns, m :: ms => by
    have ih := firstLt_ints ns ms
    rw [List.length_cons, List.length_cons, show min (ns.length + 1) (ms.length + 1) = min ns.length ms.length + 1 by omega, List.range_succ_eq_map, HT.lexLt_cons]
    show (if eqAtI (n :: ns) (m :: ms) 0 = true then PySem.SeqAt.firstLt _ _ _ _ else ltAtI (n :: ns) (m :: ms) 0) = _
    rw [firstLt_mapI]
    have e0 : eqAtI (n :: ns) (m :: ms) 0 = decide (n = m) := rfl
    have e1 : ltAtI (n :: ns) (m :: ms) 0 = decide (n < m) := rfl
    rw [e0, e1]
    by_cases h : n = m
    · rw [if_pos (decide_eq_true h), if_pos h, ← ih]
      show PySem.SeqAt.firstLt (eqAtI ns ms) (ltAtI ns ms) (decide (ns.length + 1 < ms.length + 1)) _ = _
      rw [decide_eq_decide.mpr (show ns.length + 1 < ms.length + 1 ↔ ns.length < ms.length by omega)]
    · rw [if_neg (by rw [decide_eq_false h]; exact Bool.false_ne_true), if_neg h]
theorem ints_at : ∀ {us : List Value} {ns : List Int}, IntsAre us ns → ∀ (j : Nat) (h : j < us.length), ∃ t, us[j] = .int (ns.getD j 0) t
  | _, _, .nil, j, h => absurd h (Nat.not_lt_zero _)
  | _, _, .cons n t r, 0, h => ⟨t, rfl⟩
  | _, _, .cons n t r, j + 1, h => ints_at r j (Nat.lt_of_succ_lt_succ h)
def rLtL (K : PySem.W.Frag) : R2 := fun x y H Q => ∃ a b ns ms, x = .ref a ∧ y = .ref b ∧ SqL K H a (ns.map V.int) ∧ SqL K H b (ms.map V.int) ∧ Q (.bl (HT.lexLt ns ms)) H
theorem op_ltL {X : Cx} (hu : X.A.units < cLine) : OpR X (compareOp .Lt) (rLtL X.K) := by
  intro pins s σ H x y v u Q I rx ry h
  obtain ⟨a, b, ns, ms, rfl, rfl, ha, hb, q⟩ := h
  cases rx
  cases ry
  obtain ⟨its, r1, p1, _⟩ := I.list ha
  obtain ⟨its2, r2, p2, _⟩ := I.list hb
  have i1 : IntsAre its ns := intsAre_of r1
  have i2 : IntsAre its2 ms := intsAre_of r2
  have z1 : its.length = ns.length := i1.length
  have z2 : its2.length = ms.length := i2.length
  have g : PySem.SeqAt.RcLt X.A s (.ref a) (.ref b) (PySem.SeqAt.firstLt (eqAtI ns ms) (ltAtI ns ms) (decide (its.toArray.size < its2.toArray.size)) (List.range (min its.toArray.size its2.toArray.size))) :=
    PySem.SeqAt.RcLt.lists p1.isList p2.isList hu (fun j h1 h2 => by
      obtain ⟨t1, e1⟩ := ints_at i1 j (by simpa using h1)
      obtain ⟨t2, e2⟩ := ints_at i2 j (by simpa using h2)
      rw [List.getElem_toArray, List.getElem_toArray, e1, e2]
      exact PySem.SeqAt.EqAt.int_int _ _ _ _) fun j h1 h2 _ => by
      obtain ⟨t1, e1⟩ := ints_at i1 j (by simpa using h1)
      obtain ⟨t2, e2⟩ := ints_at i2 j (by simpa using h2)
      rw [List.getElem_toArray, List.getElem_toArray, e1, e2]
      exact fun prog w E Q h => HT.rcLt_int _ _ _ _ _ _ prog w E Q h
  rw [List.size_toArray, List.size_toArray, z1, z2, firstLt_ints] at g
  exact g X.prog X.w X.xe (EP X pins σ Q) ⟨.bl (HT.lexLt ns ms), H, I, rfl, q⟩
def ltLD : PyData → PyData → Option Bool
  | .list ds, .list es => (intsD ds).bind fun ns => (intsD es).bind fun ms => some (HT.lexLt ns ms)
  | _, _ => none
theorem intsD_inv : ∀ {ds : List PyData} {ns : List Int}, intsD ds = some ns → ds = ns.map PyData.int
  | [], ns, h => by cases h; rfl
  | d :: ds, ns, h => by
    cases d with
    | int i =>
      obtain ⟨r, e, h⟩ := bind_some_of (show (intsD ds).bind (fun t => some (i :: t)) = some ns from h)
      cases h
      rw [List.map_cons, ← intsD_inv e]
    | _ => cases h
theorem dt_ltL {X : Cx} {a b : Expr} {oa ob : Od} {pos : Pos} (hu : X.A.units + 64 < cLine) (ha : DO X a oa) (hb : DO X b ob) : DT X (.Compare a [.Lt] [b] pos) (tOfE (dOp2 (blD ltLD) oa ob)) :=
  dt_cmp (op_ltL (by omega)) (nomark _) (fun G H σ δ Q v w d e z R r1 r2 h q => by
    unfold ltLD at h
    split at h
    · obtain ⟨ns, e1, h⟩ := bind_some_of h
      obtain ⟨ms, e2, h⟩ := bind_some_of h
      cases h
      cases intsD_inv e1
      cases intsD_inv e2
      obtain ⟨p, ws, rfl, h1, ra⟩ := r1.lst R.sub
      obtain ⟨p2, ws2, rfl, h2, rb⟩ := r2.lst R.sub
      cases RpAll.ints ra
      cases RpAll.ints rb
      exact ⟨p, p2, ns, ms, rfl, rfl, SqL.of h1, SqL.of h2, q⟩
    · cases h) ha hb
end CK
/-! texts: split, partition, find, join, f-strings, signs in a text; a def with a star parameter -/
namespace CK
open PySem PySem.Spec PyProof.Rows L2
variable [Memo]
def strOf : Sl → Option Str
  | .im (.str a) => some a
  | _ => none
/-- a method of a text, with one argument -/
def dTM (f : Str → PyData → Option Sl) (F1 F2 : Ex) : Ex := fun δ => (F1 δ).bind fun x => (strOf x.1).bind fun a => (F2 x.2).bind fun y => y.1.sh.bind fun e => (f a e).bind fun r => some (r, y.2)
def splitF (a : Str) : PyData → Option Sl
  | .str b => if (b.length == 0) = false ∧ a.length + 2 ≤ LINE then some (.bx .l ((Txt.split a b).map PyData.str)) else none
  | _ => none
def partF (a : Str) : PyData → Option Sl
  | .str b => if (b.length == 0) = false ∧ a.length ≤ LINE then some (.im (.tuple [.str (Txt.partition a b).1, .str (Txt.partition a b).2.1, .str (Txt.partition a b).2.2])) else none
  | _ => none
def findF (a : Str) : PyData → Option Sl
  | .str b => some (.im (.int (Txt.find a b)))
  | _ => none
def strsD : List PyData → Option (List Str)
  | [] => some []
  | .str a :: r => (strsD r).bind fun x => some (a :: x)
  | _ => none
def joinF (a : Str) : PyData → Option Sl
  | .list ds => (strsD ds).bind fun ys => if (ys.map (·.length)).sum + ys.length * a.length ≤ LINE then some (.im (.str (Txt.join a ys))) else none
  | _ => none
section
variable {X : Cx} {o e : Expr} {F1 F2 : Ex} {f : Str → PyData → Option Sl} {r : V → List V → Hp → VK → Prop} {σ : SS} {H : Hp} {Q : VK}
theorem tm_go {K : PySem.W.Frag} (hf : ∀ (G H : Hp) (δ : List Sl) (Q : VK) (a : Str) (w : V) (e : PyData) (z : Sl), Rel K G H σ δ → Rp K G w e → f a e = some z → Want K G H σ δ z Q → r (.str a) [w] H Q)
    (h : tD K (dTM f F1 F2) σ H Q) : tM1 r (tD K F1) (tD K F2) σ H Q := by
  obtain ⟨G, δ, z, δ', R, e0, q⟩ := h
  obtain ⟨⟨r1, δ1⟩, e1, e0⟩ := bind_some_of e0
  obtain ⟨a, ea, e0⟩ := bind_some_of e0
  obtain ⟨⟨r2, δ2⟩, e2, e0⟩ := bind_some_of e0
  obtain ⟨d, ed, e0⟩ := bind_some_of e0
  obtain ⟨z2, ez, e0⟩ := bind_some_of e0
  cases e0
  obtain rfl : r1 = .im (.str a) := by
    cases r1 with
    | im d => cases d <;> cases ea; rfl
    | _ => cases ea
  refine tD_run R e1 fun v1 G1 H1 R1 st1 rv1 => ?_
  have rv1 : Rp K G1 v1 (.str a) := rv1
  cases rv1
  refine ⟨⟨a, rfl⟩, tD_run R1 e2 fun v2 G2 H2 R2 st2 rv2 => ?_⟩
  obtain ⟨G3, R3, st3, sg, rp⟩ := RV.shared R2 (st1.trans st2) (rv2.ahead st1) ed
  exact hf G3 H2 δ2 Q a v2 d _ R3 rp ez fun u G' H' R' st' rv' => q u G' H' R' (st3.trans st') (rv'.ahead st3)
variable {apos pos : Pos}
theorem Rp.strV {K : PySem.W.Frag} {G : Hp} {w : V} {b : Str} (h : Rp K G w (.str b)) : w = .str b := by cases h; rfl
theorem strs_rp {K : PySem.W.Frag} {G : Hp} : ∀ (ys : List Str), RpAll K G (ys.map V.str) (ys.map PyData.str)
  | [] => .nil
  | y :: ys => .cons (.str y) (strs_rp ys)
theorem strs_of {K : PySem.W.Frag} {G : Hp} : ∀ {ds : List PyData} {ys : List Str} {ws : List V}, strsD ds = some ys → RpAll K G ws ds → ws = ys.map V.str
  | [], _, _, h, r => by cases h; cases r; rfl
  | .str a :: ds, ys, _, h, r => by
    obtain ⟨x, h1, h2⟩ := bind_some_of h
    cases h2
    cases r with
    | cons a b =>
      cases a
      rw [strs_of h1 b]; rfl
  | .none :: _, _, _, h, _ => by cases h
  | .bool _ :: _, _, _, h, _ => by cases h
  | .int _ :: _, _, _, h, _ => by cases h
  | .list _ :: _, _, _, h, _ => by cases h
  | .tuple _ :: _, _, _, h, _ => by cases h
  | .dict _ :: _, _, _, h, _ => by cases h
theorem de_split (ho : DE X o F1) (he : DE X e F2) (hs : starEach [e] X.env = [(false, eval e X.env)] := by rfl) (hbase : attributeBase o "split" X.env (eval o X.env) = eval o X.env := by rfl) (hline : (apos.endLine == pos.line) = true := by rfl) :
    DE X (.Call (.Attribute o "split" apos) [e] [] pos) (dTM splitF F1 F2) :=
  PE.by (pe_split ho he hs hbase hline) fun σ H Q h => tm_go (fun G H δ Q a w d z R rp ez q => by
    cases d with
    | str b =>
      obtain ⟨⟨h1, h2⟩, rfl⟩ := of_ite ez
      exact ⟨a, b, rfl, by rw [rp.strV], h1, h2, q.ow R (strs_rp _)⟩
    | _ => cases ez) h
theorem de_part (ho : DE X o F1) (he : DE X e F2) (hs : starEach [e] X.env = [(false, eval e X.env)] := by rfl) (hbase : attributeBase o "partition" X.env (eval o X.env) = eval o X.env := by rfl) (hline : (apos.endLine == pos.line) = true := by rfl) :
    DE X (.Call (.Attribute o "partition" apos) [e] [] pos) (dTM partF F1 F2) :=
  PE.by (pe_partition ho he hs hbase hline) fun σ H Q h => tm_go (fun G H δ Q a w d z R rp ez q => by
    cases d with
    | str b =>
      obtain ⟨⟨h1, h2⟩, rfl⟩ := of_ite ez
      exact ⟨a, b, rfl, by rw [rp.strV], h1, h2, q.tup R (.cons (.str _) (.cons (.str _) (.cons (.str _) .nil)))⟩
    | _ => cases ez) h
theorem de_find (ho : DE X o F1) (he : DE X e F2) (hs : starEach [e] X.env = [(false, eval e X.env)] := by rfl) (hbase : attributeBase o "find" X.env (eval o X.env) = eval o X.env := by rfl) (hline : (apos.endLine == pos.line) = true := by rfl) :
    DE X (.Call (.Attribute o "find" apos) [e] [] pos) (dTM findF F1 F2) :=
  PE.by (pe_m1 PySem.F.slot_str_find PySem.F.type_str_find mt_find ho he hs hbase hline) fun σ H Q h => tm_go (fun G H δ Q a w d z R rp ez q => by
    cases d with
    | str b =>
      cases ez
      exact ⟨a, b, rfl, by rw [rp.strV], q.int R⟩
    | _ => cases ez) h
theorem de_join (ho : DE X o F1) (he : DE X e F2) (hs : starEach [e] X.env = [(false, eval e X.env)] := by rfl) (hbase : attributeBase o "join" X.env (eval o X.env) = eval o X.env := by rfl) (hline : (apos.endLine == pos.line) = true := by rfl) :
    DE X (.Call (.Attribute o "join" apos) [e] [] pos) (dTM joinF F1 F2) :=
  PE.by (pe_join ho he hs hbase hline) fun σ H Q h => tm_go (fun G H δ Q a w d z R rp ez q => by
    cases d with
    | list ds =>
      obtain ⟨ys, e1, ez⟩ := bind_some_of ez
      obtain ⟨h1, rfl⟩ := of_ite ez
      cases rp with
      | lst h2 r => exact ⟨a, _, ys, rfl, rfl, .inl (by rw [← strs_of e1 r]; exact SqL.of (R.sub _ _ h2)), h1, q.str R⟩
    | _ => cases ez) h
end
/-! ### a sign in a text -/
def signOf (s : Str) : Option Nat := match s.cps.toList with
  | [c] => some c
  | _ => none
theorem sign_eq {s : Str} {c : Nat} (h : signOf s = some c) : s = ⟨#[c]⟩ := by
  unfold signOf at h
  split at h
  · rename_i c' e
    have h : c' = c := Option.some.inj h
    subst h
    obtain ⟨a⟩ := s
    have e : a.toList = [c'] := e
    have : a = #[c'] := Array.toList_inj.mp e
    rw [this]
  · cases h
def memC : PyData → PyData → Option Bool
  | .str s, .str z => (signOf s).bind fun c => some (decide (c ∈ z.cps.toList))
  | _, _ => none
def nmemC (d e : PyData) : Option Bool := (memC d e).bind fun b => some (!b)
section
variable {X : Cx} {a b : Expr} {oa ob : Od} {pos : Pos}
theorem memC_of {d e : PyData} {k : Bool} (h : memC d e = some k) : ∃ c z, d = .str ⟨#[c]⟩ ∧ e = .str z ∧ k = decide (c ∈ z.cps.toList) := by
  cases d with
  | str s =>
    cases e with
    | str z =>
      obtain ⟨c, e1, e2⟩ := bind_some_of h
      cases e2
      exact ⟨c, z, by rw [sign_eq e1], rfl, rfl⟩
    | _ => cases h
  | _ => cases h
theorem de_inC (ha : DO X a oa) (hb : DO X b ob) (hm : behindInMarks .In b = false := by rfl) : DE X (.Compare a [.In] [b] pos) (dOp2 (blD memC) oa ob) :=
  de_cmp op_in_sign hm (fun G H σ δ Q v w d e z R r1 r2 h q => by
    obtain ⟨k, h', hz⟩ := bind_some_of h
    cases hz
    obtain ⟨c, y, rfl, rfl, rfl⟩ := memC_of h'
    exact ⟨c, y, r1.str, r2.str, q.bl R⟩) ha hb
theorem de_notInC (ha : DO X a oa) (hb : DO X b ob) (hm : behindInMarks .NotIn b = false := by rfl) : DE X (.Compare a [.NotIn] [b] pos) (dOp2 (nbD memC) oa ob) :=
  de_cmp op_notIn_sign hm (fun G H σ δ Q v w d e z R r1 r2 h q => by
    obtain ⟨k, h', hz⟩ := bind_some_of h
    cases hz
    obtain ⟨c, y, rfl, rfl, rfl⟩ := memC_of h'
    exact ⟨c, y, r1.str, r2.str, q.bl R⟩) ha hb
end
section
variable {X : Cx} {a b : Expr} {oa ob : Od} {pos : Pos}
theorem dt_inC (ha : DO X a oa) (hb : DO X b ob) (hm : behindInMarks .In b = false := by rfl) : DT X (.Compare a [.In] [b] pos) (tOfE (dOp2 (blD memC) oa ob)) :=
  dt_cmp op_in_sign hm (fun G H σ δ Q v w d e z R r1 r2 h q => by
    obtain ⟨c, y, rfl, rfl, rfl⟩ := memC_of h
    exact ⟨c, y, r1.str, r2.str, q⟩) ha hb
theorem dt_notInC (ha : DO X a oa) (hb : DO X b ob) (hm : behindInMarks .NotIn b = false := by rfl) : DT X (.Compare a [.NotIn] [b] pos) (tOfE (dOp2 (blD nmemC) oa ob)) :=
  dt_cmp op_notIn_sign hm (fun G H σ δ Q v w d e z R r1 r2 h q => by
    obtain ⟨k, h', hz⟩ := bind_some_of h
    cases hz
    obtain ⟨c, y, rfl, rfl, rfl⟩ := memC_of h'
    exact ⟨c, y, r1.str, r2.str, q⟩) ha hb
end
/-! ### f-strings -/
inductive Fp where
  | lt (x : Str)
  | fv (F : Ex)
def fmtS : Sl → Option Str
  | .im (.int i) => if i.natAbs.log2 < 1920 then some (toString i) else none
  | .im (.str y) => if y.length ≤ LINE then some y else none
  | _ => none
def fsE : List Fp → Str → List Sl → Option (Str × List Sl)
  | [], acc, δ => some (acc, δ)
  | .lt x :: r, acc, δ => if (acc ++ x).length ≤ LINE then fsE r (acc ++ x) δ else none
  | .fv F :: r, acc, δ => (F δ).bind fun x => (fmtS x.1).bind fun y => if (acc ++ y).length ≤ LINE then fsE r (acc ++ y) x.2 else none
def dFs (ps : List Fp) : Ex := fun δ => (fsE ps Str.empty δ).bind fun x => some (.im (.str x.1), x.2)
def tJ (K : PySem.W.Frag) (ps : List Fp) (acc : Str) (σ : SS) (H : Hp) (Q : Str → Hp → Prop) : Prop := ∃ (G : Hp) (δ : List Sl) (out : Str) (δ' : List Sl), Rel K G H σ δ ∧ fsE ps acc δ = some (out, δ') ∧
  ∀ (G' H' : Hp), Rel K G' H' σ δ' → Stp σ δ G H σ δ' G' H' → Q out H'
/-- the parts of an f-string -/
def DJ (X : Cx) (es : List Expr) (ps : List Fp) : Prop := ∃ ts, PJ X es ts ∧ ∀ (acc : Str) (σ : SS) (H : Hp) (Q : Str → Hp → Prop), tJ X.K ps acc σ H Q → tJs ts acc σ H Q
section
variable {X : Cx} {e : Expr} {es : List Expr} {ps : List Fp} {F : Ex} {x : Str} {pos : Pos}
theorem dj_nil : DJ X [] [] := ⟨[], .nil, fun acc σ H Q h => by
  obtain ⟨G, δ, out, δ', R, e, q⟩ := h
  cases e
  exact q G H R Stp.refl⟩
theorem dj_lt (h : DE X e (dC (.str x))) (hr : DJ X es ps) : DJ X (e :: es) (.lt x :: ps) := by
  obtain ⟨ts, P, w⟩ := hr
  refine ⟨_ :: ts, .cons h P, fun acc σ H Q h => ?_⟩
  obtain ⟨G, δ, out, δ', R, e, q⟩ := h
  unfold fsE at e
  obtain ⟨hl, e⟩ : (acc ++ x).length ≤ LINE ∧ fsE ps (acc ++ x) δ = some (out, δ') := by
    by_cases z : (acc ++ x).length ≤ LINE
    · rw [if_pos z] at e; exact ⟨z, e⟩
    · rw [if_neg z] at e; cases e
  refine ⟨G, δ, _, _, R, rfl, fun v G1 H1 R1 st1 rv => ?_⟩
  have rv : Rp X.K G1 v (.str x) := rv
  cases rv
  exact ⟨x, rfl, hl, w _ _ _ _ ⟨G1, δ, out, δ', R1, e, fun G2 H2 R2 st2 => q G2 H2 R2 (st1.trans st2)⟩⟩
theorem dj_fv (h : DE X e F) (hr : DJ X es ps) : DJ X (.FormattedValue e (-1) none pos :: es) (.fv F :: ps) := by
  obtain ⟨ts, P, w⟩ := hr
  refine ⟨_ :: ts, .cons (pe_fmt h) P, fun acc σ H Q h => ?_⟩
  obtain ⟨G, δ, out, δ', R, e, q⟩ := h
  unfold fsE at e
  obtain ⟨⟨r, δ1⟩, e1, e⟩ := bind_some_of e
  obtain ⟨y, e2, e⟩ := bind_some_of e
  dsimp only at e2 e
  obtain ⟨hl, e⟩ : (acc ++ y).length ≤ LINE ∧ fsE ps (acc ++ y) δ1 = some (out, δ') := by
    by_cases z : (acc ++ y).length ≤ LINE
    · rw [if_pos z] at e; exact ⟨z, e⟩
    · rw [if_neg z] at e; cases e
  refine ⟨G, δ, _, _, R, e1, fun v G1 H1 R1 st1 rv => ?_⟩
  have fin : ∀ v, v = V.str y → ∃ y' : Str, v = .str y' ∧ (acc ++ y').length ≤ sizeLine ∧ tJs ts (acc ++ y') σ H1 Q := fun v hv =>
    ⟨y, hv, hl, w _ _ _ _ ⟨G1, δ1, out, δ', R1, e, fun G2 H2 R2 st2 => q G2 H2 R2 (st1.trans st2)⟩⟩
  cases r with
  | im d =>
    cases d with
    | int i =>
      obtain ⟨hi, rfl⟩ := of_ite e2
      have rv : Rp X.K G1 v (.int i) := rv
      cases rv
      exact .inr ⟨i, rfl, hi, fin _ rfl⟩
    | str s =>
      obtain ⟨hi, rfl⟩ := of_ite e2
      have rv : Rp X.K G1 v (.str s) := rv
      cases rv
      exact .inl ⟨s, rfl, hi, fin _ rfl⟩
    | _ => cases e2
  | _ => cases e2
theorem de_fs {e1 e2 : Expr} (h : DJ X (e1 :: e2 :: es) ps) : DE X (.JoinedStr (e1 :: e2 :: es) pos) (dFs ps) := by
  obtain ⟨ts, P, w⟩ := h
  refine PE.by (pe_joined P) fun σ H Q h => w _ _ _ _ ?_
  obtain ⟨G, δ, r, δ', R, e, q⟩ := h
  obtain ⟨⟨out, δ1⟩, e1, e⟩ := bind_some_of e
  cases e
  exact ⟨G, δ, out, δ1, R, e1, fun G' H' R' st => q (.str out) G' H' R' st (Rp.str out)⟩
end
end CK
/-! the empty dict as data: made, shown, looked at by isinstance -/
namespace CK
open PySem PySem.Spec PyProof.Rows L2
variable [Memo]
/-- {} , shared from the start -/
def dDicE : Ex := fun δ => some (.im (.dict []), δ)
def noExn : List (PyData × PyData) → Bool
  | (.none, _) :: _ => false
  | _ => true
def clsE : PyData → Option String
  | .dict kvs => if noExn kvs = true then some "dict" else none
  | d => clsD d
def isiE (T : String) (d : PyData) : Option Sl := (clsE d).bind fun t => bD (kinD t T)
mutual
/-- no dict in it but empty ones -/
def empD : PyData → Bool
  | .list xs => empAll xs
  | .tuple xs => empAll xs
  | .dict (_ :: _) => false
  | _ => true
def empAll : List PyData → Bool
  | [] => true
  | x :: xs => empD x && empAll xs
end
def reprE (d : PyData) : Option Sl := if PyData.showable d = true ∧ empD d = true ∧ (PyData.shown d).length ≤ LINE ∧ PyData.depth d ≤ 64 then some (.im (.str (PyData.shown d))) else none
section
variable {K : PySem.W.Frag} {G H : Hp} {v : V} {d : PyData}
theorem Rp.dict {kvs : List (PyData × PyData)} (hk : noExn kvs = true) (h : Rp K G v (.dict kvs)) : ∃ (a : Addr) (ks : List Key) (xs : List V) (ds : List PyData), v = .ref a ∧ G a = some (.dK (ks.zip xs)) ∧ RpAll K G xs ds ∧ kvs = (ks.map keyP).zip ds := by
  cases h with
  | dic h1 h2 => exact ⟨_, _, _, _, rfl, h1, h2, rfl⟩
  | exn => cases hk
  | exf => cases hk
theorem RT.dict {kvs : List (PyData × PyData)} (h : RT K G H v (.dict kvs)) : Rp K G v (.dict kvs) := by
  rcases h with r | ⟨p, ws, ds', _, z, _, _⟩
  · exact r
  · cases z
theorem RT.tyE {t : String} (s : Same G H) (h : RT K G H v d) (e : clsE d = some t) : TyX K H v (.type t) := by
  cases d with
  | dict kvs =>
    obtain ⟨hk, e⟩ := of_ite e
    cases e
    obtain ⟨a, ks, xs, ds, rfl, h1, _⟩ := Rp.dict hk h.dict
    exact .base (.dK (s _ _ h1))
  | none => exact h.ty s e
  | bool b => exact h.ty s e
  | int i => exact h.ty s e
  | str i => exact h.ty s e
  | list ds => exact h.ty s e
  | tuple ds => exact h.ty s e
end
mutual
/-- read off a heap, with dicts that are empty -/
inductive Zk (h : Heap) : Value → PyData → List Addr → Prop
  | none : Zk h .none .none []
  | bool (b) : Zk h (.bool b) (.bool b) []
  | int (i t) : Zk h (.int i t) (.int i) []
  | str (x t) : Zk h (.str x t) (.str x) []
  | list {a o vs n xs as} : h.get? a = some o → o.cls = .type "list" → o.data = .seq vs n → ZkAll h vs.toList xs as → Zk h (.ref a) (.list xs) (a :: as)
  | tuple {a o vs n xs as} : h.get? a = some o → o.cls = .type "tuple" → o.data = .seq vs n → ZkAll h vs.toList xs as → Zk h (.ref a) (.tuple xs) as
  | dict {a o es n} : h.get? a = some o → o.cls = .type "dict" → o.data = .dict es n → es.toList = [] → (a == sysModules) = false → Zk h (.ref a) (.dict []) (a :: [] ++ [])
inductive ZkAll (h : Heap) : List Value → List PyData → List Addr → Prop
  | nil : ZkAll h [] [] []
  | cons {v vs d ds as bs} : Zk h v d as → ZkAll h vs ds bs → ZkAll h (v :: vs) (d :: ds) (as ++ bs)
end
section
variable {prog : Program} {w : World} {h : Heap}
mutual
theorem Zk.reads : ∀ {v : Value} {d : PyData} {as : List Addr}, Zk h v d as → Reads h v d as
  | _, _, _, .none => .none
  | _, _, _, .bool b => .bool b
  | _, _, _, .int i t => .int i t
  | _, _, _, .str x t => .str x t
  | _, _, _, .list h1 h2 h3 h4 => .list h1 h2 h3 (ZkAll.reads h4)
  | _, _, _, .tuple h1 h2 h3 h4 => .tuple h1 h2 h3 (ZkAll.reads h4)
  | _, _, _, .dict h1 h2 h3 h4 _ => .dict h1 h2 h3 (by rw [h4]; exact .nil) (by rw [h4]; exact .nil)
theorem ZkAll.reads : ∀ {v : List Value} {d : List PyData} {as : List Addr}, ZkAll h v d as → ReadsAll h v d as
  | _, _, _, .nil => .nil
  | _, _, _, .cons a b => .cons (Zk.reads a) (ZkAll.reads b)
end
mutual
theorem Zk.rk : ∀ {v : Value} {d : PyData} {as : List Addr}, Zk h v d as → d.showable = true → d.shown.length ≤ sizeLine → ∃ bs, ReadAtMost h d.depth bs ∧ ReprK prog w bs h d.depth v d.shown
  | _, _, _, .none, _, _ => ⟨[], (fun _ h => nomatch h), by simp only [PyData.shown]; exact .of_is ReprIs.none _ _ _⟩
  | _, _, _, .bool b, _, _ => ⟨[], (fun _ h => nomatch h), by simp only [PyData.shown]; exact .of_is (ReprIs.bool b) _ _ _⟩
  | _, _, _, .int i t, hs, _ => ⟨[], (fun _ h => nomatch h), by simp only [PyData.shown]; exact .of_is (ReprIs.int t (by simpa [PyData.showable] using hs)) _ _ _⟩
  | _, _, _, .str x t, _, hz => ⟨[], (fun _ h => nomatch h), by simp only [PyData.shown]; exact .of_is (ReprIs.str x t (by simpa only [PyData.shown] using hz)) _ _ _⟩
  | _, _, _, .list (a := a) (vs := vs) (xs := xs) h1 h2 h3 h4, hs, hz => by
    have hz' : (listText (PyData.shownAll xs)).length ≤ sizeLine := by simpa only [PyData.shown] using hz
    obtain ⟨bs, hb, hk⟩ := ZkAll.rk h4 (by simpa [PyData.showable] using hs) (fun t ht => Nat.le_trans (listText_mem_le ht) hz')
    have r : Reads h (.ref a) (.list xs) _ := (Zk.list h1 h2 h3 h4).reads
    have hna : a ∉ bs := not_mem_of_deeper r (by simp only [PyData.depth]; omega) hb
    refine ⟨a :: bs, ReadAtMost.cons r (by simp only [PyData.depth]; omega) hb, ?_⟩
    simp only [PyData.depth, PyData.shown]
    obtain ⟨l⟩ := vs
    cases l with
    | nil =>
      have h4' : ZkAll h [] xs _ := h4
      cases h4'
      simp only [PyData.shownAll, listText_nil]
      exact ReprK.listEmpty h1 h2 h3
    | cons x l => exact ReprK.list h1 h2 h3 hna (by simpa using hk.length_eq) (fun i y e => hk.item i y (by simpa using e))
  | _, _, _, .tuple (a := a) (xs := xs) h1 h2 h3 h4, hs, hz => by
    have hz' : (tupleText (PyData.shownAll xs)).length ≤ sizeLine := by simpa only [PyData.shown] using hz
    obtain ⟨bs, hb, hk⟩ := ZkAll.rk h4 (by simpa [PyData.showable] using hs) (fun t ht => Nat.le_trans (tupleText_mem_le ht) hz')
    have r : Reads h (.ref a) (.tuple xs) _ := (Zk.tuple h1 h2 h3 h4).reads
    have hna : a ∉ bs := not_mem_of_deeper r (by simp only [PyData.depth]; omega) hb
    refine ⟨a :: bs, ReadAtMost.cons r (by simp only [PyData.depth]; omega) hb, ?_⟩
    simp only [PyData.depth, PyData.shown]
    exact ReprK.tuple h1 h2 h3 hna hk
  | _, _, _, .dict (a := a) (es := es) h1 h2 h3 h4 h5, hs, hz => by
    have r : Reads h (.ref a) (.dict []) _ := (Zk.dict h1 h2 h3 h4 h5).reads
    refine ⟨a :: [], ReadAtMost.cons (n := 0) r (by simp only [PyData.depth]; omega) (fun _ h => nomatch h), ?_⟩
    simp only [PyData.depth, PyData.shown]
    exact ReprK.dict (d := PyData.depthKv []) (ps := PyData.shownKv []) h1 h2 h3 h5 (fun h => nomatch h) (by rw [h4]; simp only [PyData.shownKv]; exact .nil)
theorem ZkAll.rk : ∀ {vs : List Value} {ds : List PyData} {as : List Addr}, ZkAll h vs ds as → PyData.showableAll ds = true → (∀ t ∈ PyData.shownAll ds, t.length ≤ sizeLine) →
    ∃ bs, ReadAtMost h (PyData.depthAll ds) bs ∧ ReprAllK prog w bs h (PyData.depthAll ds) vs (PyData.shownAll ds)
  | _, _, _, .nil, _, _ => ⟨[], (fun _ h => nomatch h), by simp only [PyData.shownAll]; exact .nil⟩
  | _, _, _, .cons (d := d) (ds := ds) r rs, hs, hz => by
    have hs' : d.showable = true ∧ PyData.showableAll ds = true := by simpa [PyData.showableAll] using hs
    obtain ⟨b1, hb1, k1⟩ := Zk.rk r hs'.1 (hz _ (by simp only [PyData.shownAll]; exact List.mem_cons_self ..))
    obtain ⟨b2, hb2, k2⟩ := ZkAll.rk rs hs'.2 (fun t ht => hz t (by simp only [PyData.shownAll]; exact List.mem_cons_of_mem _ ht))
    refine ⟨b1 ++ b2, ?_, ?_⟩
    · intro b hm
      simp only [PyData.depthAll]
      rcases List.mem_append.mp hm with hm | hm
      · obtain ⟨d', as', r', hd'⟩ := hb1 b hm
        exact ⟨d', as', r', Nat.le_trans hd' (Nat.le_max_left _ _)⟩
      · obtain ⟨d', as', r', hd'⟩ := hb2 b hm
        exact ⟨d', as', r', Nat.le_trans hd' (Nat.le_max_right _ _)⟩
    · simp only [PyData.depthAll, PyData.shownAll]
      exact .cons ((k1.more fun b hb => List.mem_append_left _ hb).level_le (Nat.le_max_left _ _)) (k2.more_le (fun b hb => List.mem_append_right _ hb) (Nat.le_max_right _ _))
end
theorem Zk.shows {a : Addr} {d : PyData} {as : List Addr} (r : Zk h (.ref a) d as) (hs : d.showable = true) (hsz : d.shown.length ≤ sizeLine) : ∃ T idr, ShowsBy prog w h a d T idr := by
  cases r with
  | list h1 h2 h3 h4 =>
    rename_i o vs n xs bs₀
    have hz' : (listText (PyData.shownAll xs)).length ≤ sizeLine := by simpa only [PyData.shown] using hsz
    obtain ⟨bs, hb, hk⟩ := ZkAll.rk (prog := prog) (w := w) h4 (by simpa [PyData.showable] using hs) (fun t ht => Nat.le_trans (listText_mem_le ht) hz')
    have hna : a ∉ bs := not_mem_of_deeper (Zk.list h1 h2 h3 h4).reads (by simp only [PyData.depth]; omega) hb
    refine ⟨"list", "list.__repr__", F.slot_list_repr.toG, F.slot_list_str, F.slot_list_format, fun s hk0 => ⟨o, hk0 _ _ h1, h2⟩, fun A E s Q hg hu hk0 hQ => ?_⟩
    simp only [PyData.depth] at hu
    simp only [PyData.shown] at hQ
    obtain ⟨l⟩ := vs
    cases l with
    | nil =>
      have h4' : ZkAll h [] xs _ := h4
      cases h4'
      simp only [PyData.shownAll, listText_nil] at hQ
      exact call_list_repr_empty ⟨o, hk0 _ _ h1, h2⟩ (hk0 _ _ h1) h3 (hQ s.heap _ _ fun _ _ e => e)
    | cons x l =>
      exact call_list_reprK h1 h2 h3 hna (by simpa using hk.length_eq) (fun i y e => hk.item i y (by simpa using e)) hg (fun b _ => Clear.nil b) hu hk0 hQ hz'
  | tuple h1 h2 h3 h4 =>
    rename_i o vs n xs
    have hz' : (tupleText (PyData.shownAll xs)).length ≤ sizeLine := by simpa only [PyData.shown] using hsz
    obtain ⟨bs, hb, hk⟩ := ZkAll.rk (prog := prog) (w := w) h4 (by simpa [PyData.showable] using hs) (fun t ht => Nat.le_trans (tupleText_mem_le ht) hz')
    have hna : a ∉ bs := not_mem_of_deeper (Zk.tuple h1 h2 h3 h4).reads (by simp only [PyData.depth]; omega) hb
    refine ⟨"tuple", "tuple.__repr__", F.slot_tuple_repr, F.slot_tuple_str, F.slot_tuple_format, fun s hk0 => ⟨o, hk0 _ _ h1, h2⟩, fun A E s Q hg hu hk0 hQ => ?_⟩
    simp only [PyData.depth] at hu
    simp only [PyData.shown] at hQ
    exact call_tuple_reprK h1 h2 h3 hna hk hg (fun b _ => Clear.nil b) hu hk0 hQ hz'
  | dict h1 h2 h3 h4 h5 =>
    rename_i o es n
    refine ⟨"dict", "dict.__repr__", F.slot_dict_repr, F.slot_dict_str, F.slot_dict_format, fun s hk0 => ⟨o, hk0 _ _ h1, h2⟩, fun A E s Q hg hu hk0 hQ => ?_⟩
    simp only [PyData.depth] at hu
    simp only [PyData.shown] at hQ
    exact call_dict_reprK (d := PyData.depthKv []) (ps := PyData.shownKv []) (as := []) h1 h2 h3 h5 (fun h => nomatch h) (by rw [h4]; simp only [PyData.shownKv]; exact .nil) hg (fun b _ => Clear.nil b) hu hk0 hQ (by simpa only [PyData.shown] using hsz)
end
section
variable {X : Cx} {pins : List (Addr × Obj)} {σ : L2.St} {H : Hp} {s : Shared}
theorem Rp.zkd (I : Inv X pins σ H s) {v : V} {u : Value} {kvs : List (PyData × PyData)} (h : Rp X.K H v (.dict kvs)) (e : kvs = []) (r : RelV v u) : ∃ as, Zk s.heap u (.dict []) as := by
  subst e
  obtain ⟨b, ks, xs, ds, rfl, h1, h2, h3⟩ := h.dict rfl
  have h0 : ks.zip xs = [] := by
    cases ks with
    | nil => rfl
    | cons k ks => cases h2 with
      | nil => rw [List.zip_nil_right]
      | cons x y => cases h3
  rw [h0] at h1
  cases r
  obtain ⟨z, lo, vs, rel, dd⟩ := dk_of I.hok h1
  have hv : vs = [] := by cases rel; rfl
  subst hv
  obtain ⟨o, es, ep, g1, g2, g3, g4, g5, _⟩ := dd
  have he : es.toList = [] := by
    cases hE : es.toList with
    | nil => rfl
    | cons x xs => rw [hE] at g5; cases g5
  exact ⟨_, .dict g1 g2.1 g3 he lo⟩
mutual
theorem Rp.zk (I : Inv X pins σ H s) : ∀ (d : PyData) (v : V) (u : Value), Rp X.K H v d → empD d = true → RelV v u → ∃ as, Zk s.heap u d as
  | .none, _, _, h, _, r => by cases h; cases r; exact ⟨_, .none⟩
  | .bool b, _, _, h, _, r => by cases h; cases r; exact ⟨_, .bool b⟩
  | .int i, _, _, h, _, r => by cases h; obtain ⟨t, rfl⟩ := r; exact ⟨_, .int i t⟩
  | .str x, _, _, h, _, r => by cases h; obtain ⟨t, rfl⟩ := r; exact ⟨_, .str x t⟩
  | .list ds, _, _, h, n, r => by
    cases h with
    | lst hs ha =>
      cases r
      obtain ⟨its, rv, ⟨o, n', ho, hc, _, hd⟩, _⟩ := I.list (SqL.of hs)
      obtain ⟨as, hr⟩ := RpAll.zk I ds _ its ha (by simpa only [empD] using n) rv
      exact ⟨_, .list ho hc hd hr⟩
  | .tuple ds, _, _, h, n, r => by
    cases h with
    | tup hs ha =>
      cases r
      obtain ⟨its, rv, ⟨o, ho, hc, n', hd⟩, _⟩ := I.tuple hs
      obtain ⟨as, hr⟩ := RpAll.zk I ds _ its ha (by simpa only [empD] using n) rv
      exact ⟨_, .tuple ho hc hd hr⟩
  | .dict [], _, _, h, _, r => Rp.zkd I h rfl r
  | .dict (_ :: _), _, _, _, n, _ => by simp only [empD] at n; cases n
theorem RpAll.zk (I : Inv X pins σ H s) : ∀ (ds : List PyData) (vs : List V) (us : List Value), RpAll X.K H vs ds → empAll ds = true → Vals vs us → ∃ as, ZkAll s.heap us ds as
  | [], _, _, h, _, r => by cases h; cases r; exact ⟨_, .nil⟩
  | d :: ds, _, _, h, n, r => by
    simp only [empAll, Bool.and_eq_true] at n
    cases h with
    | cons h1 h2 =>
      cases r with
      | cons r1 r2 =>
        obtain ⟨as, q1⟩ := Rp.zk I d _ _ h1 n.1 r1
        obtain ⟨bs, q2⟩ := RpAll.zk I ds _ _ h2 n.2 r2
        exact ⟨_, .cons q1 q2⟩
end
end
theorem RT.rpH {K : PySem.W.Frag} {G H : Hp} {v : V} {d : PyData} (s : Same G H) (h : RT K G H v d) : Rp K H v d := by
  rcases h with r | ⟨p, ws, ds, rfl, rfl, h1, h2⟩
  · exact r.same s
  · exact .lst h1 (h2.same s)
section
variable {X : Cx} {a : Expr} {oa : Od} {pos p p2 : Pos} {x T : Str}
theorem de_dicE : DE X (.Dict [] [] pos) dDicE := PE.by pe_dnewK fun σ H Q h => by
  obtain ⟨G, δ, r, δ', R, e, q⟩ := h
  cases e
  intro p hp
  obtain ⟨R2, sg⟩ := R.newS (o := .dK []) hp
  exact q (.ref p) _ _ R2 ((Stp.new (G := G) hp).share hp (gfree R.sub hp)) (.dic (ks := []) (xs := []) (ds := []) upd_same .nil)
theorem call_reprE (hgd : X.A.guards = some []) (hu : X.A.units + 128 < cLine) : CallR X (.builtin "repr") (fun xs H Q => ∃ x d, xs = [x] ∧ Rp X.K H x d ∧ PyData.showable d = true ∧ empD d = true ∧ (PyData.shown d).length ≤ sizeLine ∧ PyData.depth d ≤ 64 ∧ Q (.str (PyData.shown d)) H) := by
  intro pins s σ H xs us Q I rv h
  obtain ⟨x, d, rfl, hd, hs, hdi, hz, hdp, q⟩ := h
  cases rv with
  | cons r rr =>
    cases rr
    rename_i u
    obtain ⟨as, rd⟩ := Rp.zk I d x u hd hdi r
    cases rd with
    | none => exact PySem.P.repr_of_none ⟨.str _, H, I.tok _, ⟨_, rfl⟩, q⟩
    | bool b => exact PySem.P.repr_of_bool ⟨.str _, H, I.tok _, ⟨_, rfl⟩, q⟩
    | int i t => exact PySem.P.repr_of_int (of_decide_eq_true hs) ⟨.str _, H, I.tok _, ⟨_, rfl⟩, q⟩
    | str y t => exact PySem.P.repr_of_str ⟨.str _, H, I.tok _, ⟨_, rfl⟩, q⟩ hz
    | list h1 h2 h3 h4 =>
      obtain ⟨T, idr, S⟩ := Zk.shows (prog := X.prog) (w := X.w) (.list h1 h2 h3 h4) hs hz
      exact call_repr_slot (by omega) (S.typeIs s fun _ _ e => e) S.slotRepr (S.call X.A.in1 _ s _ hgd (by show X.A.units + 1 + _ < cLine; omega) (fun _ _ e => e) fun h' u tk k => ⟨_, _, rfl, .str _, H, I.kept k, ⟨_, rfl⟩, q⟩)
    | tuple h1 h2 h3 h4 =>
      obtain ⟨T, idr, S⟩ := Zk.shows (prog := X.prog) (w := X.w) (.tuple h1 h2 h3 h4) hs hz
      exact call_repr_slot (by omega) (S.typeIs s fun _ _ e => e) S.slotRepr (S.call X.A.in1 _ s _ hgd (by show X.A.units + 1 + _ < cLine; omega) (fun _ _ e => e) fun h' u tk k => ⟨_, _, rfl, .str _, H, I.kept k, ⟨_, rfl⟩, q⟩)
    | dict h1 h2 h3 h4 h5 =>
      obtain ⟨T, idr, S⟩ := Zk.shows (prog := X.prog) (w := X.w) (.dict h1 h2 h3 h4 h5) hs hz
      exact call_repr_slot (by omega) (S.typeIs s fun _ _ e => e) S.slotRepr (S.call X.A.in1 _ s _ hgd (by show X.A.units + 1 + _ < cLine; omega) (fun _ _ e => e) fun h' u tk k => ⟨_, _, rfl, .str _, H, I.kept k, ⟨_, rfl⟩, q⟩)
theorem de_reprE (hgd : X.A.guards = some []) (hu : X.A.units + 128 < cLine) (hg : Gl X "repr") (hm : X.mg "repr" = none) (ha : DO X a oa) (hs : starEach [a] X.env = (false, eval a X.env) :: starEach [] X.env := by rfl) (hpl : (backTo pos (starEach [] X.env)).any (·.1) = false := by rfl) : DE X (.Call (.Name "repr" p) [a] [] pos) (dOp1 reprE oa) :=
  de_b1 (call_reprE hgd hu) (fun G H σ δ Q v d z R r1 h q => by
    obtain ⟨⟨h1, h2, h3, h4⟩, h⟩ := of_ite h
    subst h
    exact ⟨v, d, rfl, r1.rpH R.sub, h1, h2, h3, h4, q.str R⟩) hg hm (by decide +kernel) ha (hs := hs) (hpl := hpl)
theorem de_isiE {T : Str} {t : String} (hk : ∀ s, s = "NoneType" ∨ s = "bool" ∨ s = "int" ∨ s = "str" ∨ s = "list" ∨ s = "tuple" ∨ s = "dict" → PySem.W.kitOne X.K (.type s) (.type t) = some (kinD s t)) (hg : Gl X "isinstance") (hm : X.mg "isinstance" = none) (hg2 : Gl X T) (hm2 : X.mg T = none)
    (hv2 : bootBuiltins T = some (.type t)) (ha : DO X a oa) (hn : T ≠ "__name__" := by decide) (hdb : (T == ("__debug__" : Str)) = false := by decide)
    (hs : starEach [a, .Name T p2] X.env = (false, eval a X.env) :: starEach [.Name T p2] X.env := by rfl) (hs2 : starEach [.Name T p2] X.env = (false, eval (.Name T p2) X.env) :: starEach [] X.env := by rfl)
    (hpl : (backTo pos (starEach [.Name T p2] X.env)).any (·.1) = false := by rfl) : DE X (.Call (.Name "isinstance" p) [a, .Name T p2] [] pos) (dOp1 (isiE t) oa) :=
  PE.by (pe_callB call_isi hg hm (by decide +kernel) (pa_cons ha.pe (pa_cons (pe_bltn (v := .ty t) hg2 hm2 hv2 rfl hn hdb) pa_nil hs2) hs) (he := hs) (hpl := hpl)) fun σ H Q h =>
    od1 (T := fun v H1 => rIsi X.K [v, .ty t] H1 Q) h fun G H1 δ v d z R r1 e3 q => by
      obtain ⟨s, e4, e5⟩ := bind_some_of e3
      cases e5
      refine ⟨v, .ty t, _, _, kinD s t, rfl, .ty t, r1.tyE R.sub e4, hk s ?_, Want.bl q R⟩
      cases d with
      | dict kvs =>
        obtain ⟨_, e4⟩ := of_ite e4
        cases e4
        simp
      | none => cases e4; simp
      | bool b => cases e4; simp
      | int b => cases e4; simp
      | str b => cases e4; simp
      | list b => cases e4; simp
      | tuple b => cases e4; simp
end
theorem kitE_list {K : PySem.W.Frag} : ∀ s, s = "NoneType" ∨ s = "bool" ∨ s = "int" ∨ s = "str" ∨ s = "list" ∨ s = "tuple" ∨ s = "dict" → PySem.W.kitOne K (.type s) (.type "list") = some (kinD s "list") := by
  rintro s (rfl | rfl | rfl | rfl | rfl | rfl | rfl) <;> exact kit_ty (by decide +kernel)
theorem kitE_tuple {K : PySem.W.Frag} : ∀ s, s = "NoneType" ∨ s = "bool" ∨ s = "int" ∨ s = "str" ∨ s = "list" ∨ s = "tuple" ∨ s = "dict" → PySem.W.kitOne K (.type s) (.type "tuple") = some (kinD s "tuple") := by
  rintro s (rfl | rfl | rfl | rfl | rfl | rfl | rfl) <;> exact kit_ty (by decide +kernel)
theorem kitE_int {K : PySem.W.Frag} : ∀ s, s = "NoneType" ∨ s = "bool" ∨ s = "int" ∨ s = "str" ∨ s = "list" ∨ s = "tuple" ∨ s = "dict" → PySem.W.kitOne K (.type s) (.type "int") = some (kinD s "int") := by
  rintro s (rfl | rfl | rfl | rfl | rfl | rfl | rfl) <;> exact kit_ty (by decide +kernel)
theorem kitE_bool {K : PySem.W.Frag} : ∀ s, s = "NoneType" ∨ s = "bool" ∨ s = "int" ∨ s = "str" ∨ s = "list" ∨ s = "tuple" ∨ s = "dict" → PySem.W.kitOne K (.type s) (.type "bool") = some (kinD s "bool") := by
  rintro s (rfl | rfl | rfl | rfl | rfl | rfl | rfl) <;> exact kit_ty (by decide +kernel)
theorem kitE_str {K : PySem.W.Frag} : ∀ s, s = "NoneType" ∨ s = "bool" ∨ s = "int" ∨ s = "str" ∨ s = "list" ∨ s = "tuple" ∨ s = "dict" → PySem.W.kitOne K (.type s) (.type "str") = some (kinD s "str") := by
  rintro s (rfl | rfl | rfl | rfl | rfl | rfl | rfl) <;> exact kit_ty (by decide +kernel)
end CK
/-! defs that raise: which error, beside what they answer -/
namespace CK
open PySem PySem.Spec PyProof.Rows L2
variable [Memo]
/-- an error: its class's name, its field -/
structure Er where
  n : Str
  x : Option (Str × PyData)
/-- how an error lies: its class, its own dict -/
def ErAt (mg : Str → Option Value) (K : PySem.W.Frag) (G H : Hp) (e : Er) (cls : Value) (d : Option Addr) : Prop :=
  ∃ C, mg e.n = some (.ref C) ∧ cls = .ref C ∧ match e.x with
    | none => d = none
    | some (f, i) => ∃ dd v, d = some dd ∧ H dd = some (.xd [(f, v)]) ∧ Rp K G v i
/-- what a class of errors makes of one value: its context is None -/
theorem pmk1N {X : Cx} {C : Addr} {bmB : List Value} {B newId initId : String} {x : Str} {e : Expr} {ta : TE} {p pos : Pos} (F : ExcBaseFacts B newId initId bmB) (q : PySem.W.excIn X.K C bmB newId = true) (gC : X.mg x = some (.ref C)) (kC : PySem.W.keepIn X.K (.ref C) = true) (r : Raises X (.ref C)) (hg : Gl X x)
    (he : PE X e ta) (hs : starEach [e] X.env = (false, eval e X.env) :: starEach [] X.env := by rfl) (hdb : (x == ("__debug__" : Str)) = false := by decide) :
    L2N.PMk X (.Call (.Name x p) [e] [] pos) (fun σ H Q => ta σ H fun _ H1 => Q (.ref C) none H1) := fun pins s σ H Q I h => by
  refine wpAny_Call_Name_kw (ld_glob I hg gC (PySem.W.callWith_K (h₀ := X.base) I.ok.mod.kin kC ?_ hs (by rfl)) hdb)
  rw [hs]
  show wpAny _ _ (spliced ((false, eval e X.env) :: backTo pos (starEach [] X.env))) _ _ s
  refine Calls.spliced_cons (thn (he.run pins s σ H (fun _ H1 => Q (.ref C) none H1) I h) fun u s1 hh => ?_)
  obtain ⟨_, H1, I1, _, q1⟩ := hh
  refine Calls.spliced_nil ⟨I1.kIn, (?_ : wpAny _ _ (call (.ref C) [u]) _ _ _)⟩
  obtain ⟨_, _, _, _, _, _, _, _, _, _, _, _, _, _, _, _, _, hC, hN, hni, T⟩ := exc_obj I1.kIn q
  exact wpAny_call_exc_subT F T hC hN hni (fun h' a hm => L2N.mk_of I1 hm r q1 (I1.hok.gone hm.new)) (by show 1 ≤ sizeLine; rw [sizeLine_eq]; omega)
/-- what a statement raises -/
abbrev Sx := List Sl → Option (Er × List Sl)
def tX (K : PySem.W.Frag) (mg : Str → Option Value) (W : WX) (P : List Nat) (S : Sx) : TS := fun _ σ H => ∃ (G : Hp) (δ : List Sl) (e : Er) (δ' : List Sl), Rel K G H σ δ ∧ S δ = some (e, δ') ∧
  ∀ (σ' : SS) (G' H' : Hp) (cls : Value) (d : Option Addr), Rel K G' H' σ' δ' → Stp σ δ G H σ' δ' G' H' → Pin P σ σ' → ErAt mg K G' H' e cls d → W cls d σ' H'
abbrev DX (X : Cx) (W : WX) (P : List Nat) (s : Stmt) (S : Sx) : Prop := PS X s (tX X.K X.mg W P S)
abbrev DXs (X : Cx) (W : WX) (P : List Nat) (s : List Stmt) (S : Sx) : Prop := PSs X s (tX X.K X.mg W P S)
def xNo : Sx := fun _ => none
def xIf (c : Tt) (S T : Sx) : Sx := fun δ => (c δ).bind fun x => if x.1 = true then S x.2 else T x.2
/-- the first raises, or it runs through and the rest raises -/
def xSeq (xA : Sx) (A : Sm) (xB : Sx) : Sx := fun δ => match xA δ with
  | some r => some r
  | none => (A δ).bind fun y => match y.1 with
    | .nx => xB y.2
    | _ => none
def xRaise (n : Str) : Sx := fun δ => some (⟨n, none⟩, δ)
def xRaise1 (n : Str) (F : Ex) : Sx := fun δ => (F δ).bind fun y => some (⟨n, none⟩, y.2)
def xRaiseF (n f : Str) (F : Ex) : Sx := fun δ => (F δ).bind fun y => y.1.sh.bind fun d => some (⟨n, some (f, d)⟩, y.2)
/-- what a def raises -/
abbrev Fx := List Sl → Option Er
def plainS : Sl → Bool
  | .im _ => true
  | .fz _ => true
  | .raw _ => true
  | _ => false
def fnX (m : Nat) (S : Sx) : Fx := fun as => if as.all plainS = true then (S (as ++ List.replicate m .no)).map (·.1) else none
def xCall (x : Fx) (as : List Ag) : Sx := fun δ => (agE as δ).bind fun y => (agS as y.1 y.2).bind fun ss => if agI as = [] ∧ ss.all plainS = true then (x ss).bind fun e => some (e, y.2) else none
def spE (K : PySem.W.Frag) (mg : Str → Option Value) (n : Nat) (x : Fx) : Sp := fun vs H _ E => vs.length = n ∧ ∃ (G : Hp) (as : List Sl) (e : Er), Rel K G H (vs.map some) as ∧ as.all plainS = true ∧ x as = some e ∧
  ∀ (G' H' : Hp) (cls : Value) (d : Option Addr), Rel K G' H' (vs.map some) as → Stp (vs.map some) as G H (vs.map some) as G' H' → ErAt mg K G' H' e cls d → E cls d H'
section
variable {X : Cx} {W : WX} {P : List Nat} {pos : Pos} {s : Stmt} {ss : List Stmt} {e : Expr} {F : Ex}
theorem psNox {t : TS} (h : PS X.nox s t) : PS X s t := ⟨fun pins s σ H D I hw =>
  wpAny_mono (h.run pins s σ H D (I.wish _) hw) (fun _ _ q => q.unwish) fun _ _ z => False.elim z⟩
theorem paNox {es : List Expr} {t : TA} (h : PA X.nox es t) : PA X es t := ⟨fun pos pins s σ H Q I hw =>
  wpAny_mono (h.run pos pins s σ H Q (I.wish _) hw) (fun _ _ ⟨v, H', I', r, q⟩ => ⟨v, H', I'.unwish, r, q⟩) fun _ _ z => False.elim z⟩
theorem dx_no : DX X W P s xNo := PS.by ps_never fun D σ H h => by
  obtain ⟨_, _, _, _, _, e, _⟩ := h
  cases e
theorem dxs_no : DXs X W P ss xNo := PSs.by pss_never fun D σ H h => by
  obtain ⟨_, _, _, _, _, e, _⟩ := h
  cases e
theorem dx_if {c : Expr} {a b : List Stmt} {C : Tt} {S T : Sx} (hc : DT X.nox c C) (ha : DXs X W P a S) (hb : DXs X W P b T) : DX X W P (.If c a b pos) (xIf C S T) := PS.by (ps_if hc.nox ha hb) fun D σ H h => by
  obtain ⟨G, δ, e, δ', R, h, q⟩ := h
  obtain ⟨⟨z, δ1⟩, e1, h⟩ := bind_some_of h
  refine tT_bind R e1 fun G1 H1 R1 st1 => ?_
  cases z with
  | true =>
    rw [if_pos rfl] at h ⊢
    exact ⟨G1, δ1, e, δ', R1, h, fun σ2 G2 H2 cls d R2 st2 p2 ea => q σ2 G2 H2 cls d R2 (st1.trans st2) p2 ea⟩
  | false =>
    rw [if_neg Bool.false_ne_true] at h ⊢
    exact ⟨G1, δ1, e, δ', R1, h, fun σ2 G2 H2 cls d R2 st2 p2 ea => q σ2 G2 H2 cls d R2 (st1.trans st2) p2 ea⟩
/-- either -/
theorem ps_or {t u : TS} (h1 : PS X s t) (h2 : PS X s u) : PS X s (fun D σ H => t D σ H ∨ u D σ H) := ⟨fun pins s σ H D I h => h.elim (h1.run pins s σ H D I) (h2.run pins s σ H D I)⟩
theorem dxs_cons {xA xB : Sx} {A : Sm} (hx : DX X W P s xA) (ha : DS X.nox P s A) (hb : DXs X W P ss xB) : DXs X W P (s :: ss) (xSeq xA A xB) := PSs.by (pss_cons (ps_or hx (psNox ha)) hb) fun D σ H h => by
  obtain ⟨G, δ, e, δ', R, h, q⟩ := h
  unfold xSeq at h
  cases hA : xA δ with
  | some r =>
    rw [hA] at h
    cases h
    exact .inl ⟨G, δ, _, _, R, hA, q⟩
  | none =>
    rw [hA] at h
    obtain ⟨⟨fl, δ1⟩, e1, h⟩ := bind_some_of h
    refine .inr ⟨G, δ, fl, δ1, R, e1, fun σ1 G1 H1 R1 st1 p1 => ?_⟩
    cases fl with
    | nx => exact ⟨G1, δ1, e, δ', R1, h, fun σ2 G2 H2 cls d R2 st2 p2 ea => q σ2 G2 H2 cls d R2 (st1.trans st2) (p1.trans p2) ea⟩
    | bk => cases h
    | ct => cases h
    | rt r => cases h
theorem dxs_one {S : Sx} (h : DX X W P s S) : DXs X W P [s] S := pss_one h
/-- raise C('..') -/
theorem dx_raise {n m : Str} {j : Nat} {p p2 pos2 : Pos} {bmB : List Value} {B newId initId : String} {C : Addr} (hc : X.calm = true) (tk : L2N.Takes X W) (Fb : ExcBaseFacts B newId initId bmB) (q : PySem.W.excIn X.K C bmB newId = true) (gC : X.mg n = some (.ref C)) (kC : PySem.W.keepIn X.K (.ref C) = true)
    (r : Raises X (.ref C)) (hg : Gl X n) (hdb : (n == ("__debug__" : Str)) = false := by decide) : DX X W P (.Raise (some (.Call (.Name n p) [.Constant (.str m) j p2] [] pos)) none pos2) (xRaise n) :=
  PS.by (L2N.ps_raise hc tk (L2N.pmk_own Fb q gC kC r hg hdb)) fun D σ H h => by
    obtain ⟨G, δ, e, δ', R, h, w⟩ := h
    cases h
    exact w σ G H _ _ R Stp.refl Pin.refl ⟨C, gC, rfl, rfl⟩
theorem dx_raise1 {n : Str} {p pos2 : Pos} {bmB : List Value} {B newId initId : String} {C : Addr} (hc : X.calm = true) (tk : L2N.Takes X W) (Fb : ExcBaseFacts B newId initId bmB) (q : PySem.W.excIn X.K C bmB newId = true) (gC : X.mg n = some (.ref C)) (kC : PySem.W.keepIn X.K (.ref C) = true)
    (r : Raises X (.ref C)) (hg : Gl X n) (he : DE X.nox e F) (hs : starEach [e] X.env = (false, eval e X.env) :: starEach [] X.env := by rfl) (hdb : (n == ("__debug__" : Str)) = false := by decide) :
    DX X W P (.Raise (some (.Call (.Name n p) [e] [] pos)) none pos2) (xRaise1 n F) :=
  PS.by (L2N.ps_raise hc tk (pmk1N Fb q gC kC r hg he.nox hs hdb)) fun D σ H h => by
    obtain ⟨G, δ, er, δ', R, h, w⟩ := h
    obtain ⟨⟨y, δ1⟩, e1, h⟩ := bind_some_of h
    cases h
    exact tD_run R e1 fun v G1 H1 R1 st1 rv => w σ G1 H1 _ _ R1 st1 Pin.refl ⟨C, gC, rfl, rfl⟩
end
section
variable {X : Cx} {W : WX} {P : List Nat} {k n : Nat} {f : Addr} {fd : FuncData} {ps : List Str} {x : Str} {p pos pos2 : Pos} {e : Expr} {es : List Expr} {as : List Ag} {fx : Fx}
theorem runE {CT : CXT} {sp : Sp} {E : XK} {pins : List (Addr × Obj)} {σ : SS} {H : Hp} {s : Shared} {Q : VK} {args : Args} {us : List Value} {vs : List V} {kw : List (Str × Value)} {ws : List Value}
    (hgd : X.A.guards = some []) (F : FnG X.prog X.w X.K X.mg X.base CT k f fd ps sp) (hr : Room k X.A) (hx : PassesAt CT X σ E) (I : Inv X pins σ H s)
    (hb : BindsTo s fd ⟨ws, kw⟩ (ps.zip us)) (r : Vals vs us) (h : sp vs H Q E) : wpAny (model X.prog X.w) X.A (call (.ref f) ws kw) (EP X pins σ Q) X.xe s := by
  refine wpAny_call (codeAny_mono (F.go X.A X.stack s H ⟨ws, kw⟩ us vs Q E hgd hr I.env0 hb r h) fun r s' hq => ?_)
  cases r with
  | error er => exact hx pins H s er s' I hq
  | ok fl =>
    cases fl with
    | ret u => exact I.after hq
    | next => exact hq.elim
    | brk => exact hq.elim
    | cont => exact hq.elim
theorem pe_callE {sp : Sp} {t : TA} (hgd : X.A.guards = some []) (F : FnG X.prog X.w X.K X.mg X.base (L2N.CX X.prog X.w) k f fd ps sp) (hr : Room k X.A) (tk : L2N.Takes X W) (hg : Gl X x) (hm : X.mg x = some (.ref f)) (hk : PySem.W.keepIn X.K (.ref f) = true)
    (hb : Binds X.K fd ps []) (ha : PA X (e :: es) t) (hdb : (x == ("__debug__" : Str)) = false := by decide)
    (he : starEach (e :: es) X.env = (false, eval e X.env) :: starEach es X.env := by rfl) (hpl : (backTo pos (starEach es X.env)).any (·.1) = false := by rfl) :
    PE X (.Call (.Name x p) (e :: es) [] pos) (fun σ H Q => t σ H fun vs H1 => sp vs H1 Q (WE W σ)) := ⟨fun pins s σ H Q I h => by
  refine wpAny_Call_Name_kw (ld_glob I hg hm (PySem.W.callWith_K (h₀ := X.base) I.ok.mod.kin hk ?_ he hpl) hdb)
  refine thn (ha.run pos pins s σ H _ I h) fun us s1 ⟨vs, H1, I1, r, q⟩ => ⟨I1.kIn, ?_⟩
  have hl : (us ++ []).length = ps.length := by
    rw [List.append_nil, ← r.length]
    exact F.arity _ _ _ _ q
  have hbs := hb s1 us I1.kIn hl
  rw [List.append_nil] at hbs
  exact runE (args := ⟨us, []⟩) hgd F hr (L2N.passAt tk σ) I1 hbs r q⟩
end
section
variable {K : PySem.W.Frag} {G H : Hp} {σ : SS} {δ : List Sl}
/-- slots that are all plain own nothing -/
theorem plain_own {vs : SS} {as : List Sl} (h : as.all plainS = true) {a : Addr} : ¬ Own vs as a := by
  rintro ⟨i, t, ds, _, e⟩
  have := List.all_eq_true.mp h _ (List.mem_of_getElem? e)
  cases this
theorem plain_rel {vs : SS} {as : List Sl} {G' H' : Hp} (h : as.all plainS = true) (R : Rel K G H vs as) (R' : Rel K G' H' σ δ) (sg : Same G G') : Rel K G' H' vs as := by
  refine ⟨R'.sub, R.len, fun i s e => (R.slot i s e).same sg (fun p t ws ds z => ?_) fun x p z => ?_, fun i j p t u ds es h1 h2 h3 h4 => ?_, R'.inv⟩
  · subst z
    have := List.all_eq_true.mp h _ (List.mem_of_getElem? e)
    cases this
  · subst z
    have := List.all_eq_true.mp h _ (List.mem_of_getElem? e)
    cases this
  · exact absurd ⟨i, t, ds, h1, h2⟩ (plain_own h)
/-- where plain arguments come from -/
theorem ag_plain : ∀ {as : List Ag} {ps : List (Option Sl)} {δ ss : List Sl} {vs : List V}, agS as ps δ = some ss → AW K G σ vs as ps → ss.all plainS = true → ss.length = vs.length ∧ ∀ (j : Nat) (s : Sl), ss[j]? = some s → ∃ v, vs[j]? = some v ∧ SlotOk K G H (some v) s := fun {as ps δ ss vs} h w hp => by
  obtain ⟨h1, h2⟩ := agS_get h w
  refine ⟨h1, fun j s e => ?_⟩
  obtain ⟨v, e1, z⟩ := h2 j s e
  refine ⟨v, e1, ?_⟩
  have hs := List.all_eq_true.mp hp _ (List.mem_of_getElem? e)
  rcases z with ⟨av, _, _⟩ | ⟨_, t, ds, _, e2, _⟩ | ⟨_, x, _, e2, _⟩
  · cases s with
    | im d => exact ⟨v, rfl, av⟩
    | fz d => obtain ⟨p, ws, z1, z2, z3⟩ := av; exact ⟨p, ws, by rw [z1], z2, z3⟩
    | raw u => exact congrArg some av
    | no => cases hs
    | bx t ds => cases hs
    | mo x => cases hs
  · rw [e2] at hs; cases hs
  · rw [e2] at hs; cases hs
end
section
variable {X : Cx} {W : WX} {P : List Nat} {k n : Nat} {f : Addr} {fd : FuncData} {ps : List Str} {x : Str} {p pos pos2 : Pos} {e : Expr} {es : List Expr} {as : List Ag} {fx : Fx}
theorem agW_len {K : PySem.W.Frag} {G : Hp} {σ : SS} : ∀ {vs : List V} {as : List Ag} {ps : List (Option Sl)}, AW K G σ vs as ps → vs.length = as.length
  | [], [], [], _ => rfl
  | _ :: _, .io _ :: _, none :: _, h => congrArg (· + 1) (agW_len h.2)
  | _ :: _, .ex _ :: _, some _ :: _, h => congrArg (· + 1) (agW_len h.2)
/-- what a call raises -/
theorem callE_go [Still ‹Memo›] {σ : SS} {H : Hp} (hn : as.length = n) {Q : VK} (h : ∃ (G : Hp) (δ : List Sl) (er : Er) (δ' : List Sl), Rel X.K G H σ δ ∧ xCall fx as δ = some (er, δ') ∧
      ∀ (σ' : SS) (G' H' : Hp) (cls : Value) (d : Option Addr), Rel X.K G' H' σ' δ' → Stp σ δ G H σ' δ' G' H' → Pin P σ σ' → ErAt X.mg X.K G' H' er cls d → W cls d σ' H') :
    tAg X.K as σ H fun vs H1 => spE X.K X.mg n fx vs H1 Q (WE W σ) := by
  obtain ⟨G, δ, er, δ', R, h, w⟩ := h
  obtain ⟨⟨ps, δ1⟩, e1, h⟩ := bind_some_of h
  obtain ⟨ss, e2, h⟩ := bind_some_of h
  obtain ⟨⟨h1, h2⟩, h⟩ := (show (agI as = [] ∧ ss.all plainS = true) ∧ ((fx ss).bind fun e => some (e, δ1)) = some (er, δ') by
    by_cases z : agI as = [] ∧ ss.all plainS = true
    · rw [if_pos z] at h; exact ⟨z, h⟩
    · rw [if_neg z] at h; cases h)
  obtain ⟨er2, e3, h⟩ := bind_some_of h
  cases h
  refine ⟨G, δ, ps, δ', R, e1, fun vs G1 H1 R1 st1 aw => ?_⟩
  obtain ⟨k1, k2⟩ := ag_plain (H := H1) e2 aw h2
  have hl : vs.length = n := (agW_len aw).trans hn
  have R2 : Rel X.K G1 H1 (vs.map some) ss := by
    refine ⟨R1.sub, by rw [List.length_map, k1], fun i s e => ?_, fun i j p t u ds es' g1 g2 g3 g4 => absurd ⟨i, t, ds, g1, g2⟩ (plain_own h2), R1.inv⟩
    obtain ⟨v, z1, z2⟩ := k2 i s e
    rw [List.getElem?_map, z1]
    exact z2
  refine ⟨hl, G1, ss, er, R2, h2, e3, fun G2 H2 cls d R3 st2 ea => ?_⟩
  have st3 : Stp σ δ' G1 H1 σ δ' G2 H2 := by
    refine ⟨fun a o e n => ?_, st2.dom, st2.same, fun a o e => ?_⟩
    · obtain ⟨g1, g2⟩ := st2.keep a o e (plain_own h2)
      exact ⟨g1, n⟩
    · rcases st2.grow a o e with g | g | g
      · exact .inl g
      · exact .inr (.inl g)
      · exact absurd g (plain_own h2)
  have R4 : Rel X.K G2 H2 σ δ' := by
    refine ⟨R3.sub, R1.len, fun i s e => (R1.slot i s e).same st2.same (fun p t ws ds z hb hg hv => ?_) (mSt st3.same (gn_stp R1 st3) (st3.stay R1)), R1.inj, R3.inv⟩
    obtain ⟨o, ho, hvo, hk⟩ := hb.at
    subst z
    refine ⟨hk H2 ((st2.keep p o ho (plain_own h2)).1 fun c => hvo c.1), ?_⟩
    cases hg2 : G2 p with
    | none => rfl
    | some u =>
      rcases st2.grow p u hg2 with g | g | g
      · rw [hg] at g; cases g
      · rw [ho] at g; cases g
      · exact absurd g (plain_own h2)
  exact w σ G2 H2 cls d R4 (st1.trans st3) Pin.refl ea
theorem dx_call [Still ‹Memo›] (hgd : X.A.guards = some []) (F : FnG X.prog X.w X.K X.mg X.base (L2N.CX X.prog X.w) k f fd ps (spE X.K X.mg n fx)) (hr : Room k X.A) (tk : L2N.Takes X W) (hg : Gl X x) (hm : X.mg x = some (.ref f)) (hk : PySem.W.keepIn X.K (.ref f) = true)
    (hb : Binds X.K fd ps []) (ha : DA X.nox (e :: es) as) (hn : as.length = n := by rfl) (hdb : (x == ("__debug__" : Str)) = false := by decide)
    (hs : swapsWith (.Call (.Name x p) (e :: es) [] pos) none pos2.line X.env = pure false := by rfl)
    (he : starEach (e :: es) X.env = (false, eval e X.env) :: starEach es X.env := by rfl) (hpl : (backTo pos (starEach es X.env)).any (·.1) = false := by rfl) :
    DX X W P (.Expr (.Call (.Name x p) (e :: es) [] pos) pos2) (xCall fx as) :=
  PS.by (ps_expr (pe_callE hgd F hr tk hg hm hk hb (paNox ha) hdb he hpl) hs) fun D σ H h => callE_go (Q := fun _ H1 => D.nx σ H1) hn h
theorem dx_retCall [Still ‹Memo›] (hgd : X.A.guards = some []) (F : FnG X.prog X.w X.K X.mg X.base (L2N.CX X.prog X.w) k f fd ps (spE X.K X.mg n fx)) (hr : Room k X.A) (tk : L2N.Takes X W) (hg : Gl X x) (hm : X.mg x = some (.ref f)) (hk : PySem.W.keepIn X.K (.ref f) = true)
    (hb : Binds X.K fd ps []) (ha : DA X.nox (e :: es) as) (hn : as.length = n := by rfl) (hdb : (x == ("__debug__" : Str)) = false := by decide)
    (he : starEach (e :: es) X.env = (false, eval e X.env) :: starEach es X.env := by rfl) (hpl : (backTo pos (starEach es X.env)).any (·.1) = false := by rfl) :
    DX X W P (.Return (some (.Call (.Name x p) (e :: es) [] pos)) pos2) (xCall fx as) :=
  PS.by (ps_ret (pe_callE hgd F hr tk hg hm hk hb (paNox ha) hdb he hpl)) fun D σ H h => callE_go (Q := D.rt) hn h
end
/-- a def that raises -/
theorem exG {P : Program} {w : World} {K : PySem.W.Frag} {mg : Str → Option Value} {base : Heap} {x qual : Str} {st : Stmt} {f : Addr} {fd : FuncData} {N ps : List Str} {k n m : Nat} {Pn : List Nat} {S : Sx}
    (F : Fun K x qual st f fd) (Sc : FnScope N ps (defScope st)) (hn : ps.length = n) (hN : N.length = n + m)
    (hbody : ∀ (cdv : Value) (A : Around) (outer : List Env) (s : Shared) (H : Hp) (E : XK), A.guards = some [] → Room k (A.deeper (envOfC qual (defScope st) s.heap.objs.size f cdv)) →
      L2N.Takes (cxOf (L2N.CX P w) P w K mg base N qual (defScope st) f cdv A outer s H E) (fun cls d _ H => E cls d H) →
      DXs (cxOf (L2N.CX P w) P w K mg base N qual (defScope st) f cdv A outer s H E) (fun cls d _ H => E cls d H) Pn (defBody st) S) : FnG P w K mg base (L2N.CX P w) (k + 1) f fd ps (spE K mg n (fnX m S)) := by
  obtain ⟨oc, od, kV, doc, pm, an, cdv, ct, osl, rfl, lk, hcd⟩ := F.ex
  refine fnG_of lk hcd Sc (fun vs H Q E h => h.1.trans hn.symm) fun A outer s H vs Q E hgd hr hsp => ?_
  refine ⟨_, hbody cdv A outer s H E hgd hr (L2N.takes_of rfl rfl rfl rfl), ?_⟩
  obtain ⟨hl, G, as, e, R, hp, hx, q⟩ := hsp
  unfold fnX at hx
  rw [if_pos hp] at hx
  obtain ⟨⟨e2, δ'⟩, hS, z⟩ := Option.map_eq_some_iff.mp hx
  cases z
  have es : L2.start N vs = vs.map some ++ List.replicate m none := by
    unfold L2.start
    rw [hN, hl]
    have : n + m - n = m := by omega
    rw [this]
  have al : as.length = n := by rw [← R.len, List.length_map]; exact hl
  have no : ∀ {a : Addr}, ¬ Own (L2.start N vs) (as ++ List.replicate m .no) a := by
    rintro a ⟨i, t, ds, h1, h2⟩
    rcases List.mem_append.mp (List.mem_of_getElem? h2) with h | h
    · have := List.all_eq_true.mp hp _ h
      cases this
    · cases List.eq_of_mem_replicate h
  have R0 : Rel K G H (L2.start N vs) (as ++ List.replicate m .no) := by
    refine ⟨R.sub, by rw [es]; simp [R.len.symm], fun i s h => ?_, fun i j p t u ds es' h1 h2 h3 h4 => absurd ⟨i, t, ds, h1, h2⟩ no, R.inv⟩
    by_cases hi : i < n
    · rw [List.getElem?_append_left (by omega)] at h
      rw [es, List.getElem?_append_left (by rw [List.length_map]; omega)]
      exact R.slot i s h
    · rw [List.getElem?_append_right (by omega)] at h
      rw [List.eq_of_mem_replicate (List.mem_of_getElem? h)]
      trivial
  refine ⟨G, _, e2, δ', R0, hS, fun σ' G' H' cls d R' st pin ea => ?_⟩
  refine q G' H' cls d (plain_rel hp R R' st.same) ⟨fun a o h _ => ⟨(st.keep a o h no).1, plain_own hp⟩, st.dom, st.same, fun a o h => ?_⟩ ea
  rcases st.grow a o h with g | g | g
  · exact .inl g
  · exact .inr (.inl g)
  · exact absurd g no
end CK
/-! errors with a field: the classes' own __init__ -/
namespace CK
open PySem PySem.Spec PyProof.Rows L2
/-- the base class, from which __init__ is taken by its name -/
structure BaseC (K : PySem.W.Frag) (mg : Str → Option Value) (n : Str) : Prop where
  ex : ∃ C mc, mg n = some (.ref C) ∧ PySem.W.specialIn K (.ref C) "__getattribute__" = some (some (.builtin "type.__getattribute__")) ∧ PySem.W.readsIn K C mc = true ∧ PySem.W.findCls K (.ref C) mc "__init__" = some (.val (.builtin "ValueError.__init__"))
section
variable {X : Cx} {o e : Expr} {es : List Expr} {to te : TE} {ta : TA} {f n : Str} {p p' p1 p2 pos : Pos}
theorem pe_binit {pl : Sem Bool} (B : BaseC X.K X.mg n) (hg : Gl X n) (ha : PA X (e :: es) ta) (hdb : (n == ("__debug__" : Str)) = false := by decide)
    (hc : eval (.Call (.Attribute (.Name n p1) "__init__" p2) (e :: es) [] pos) X.env = (do
      let ov ← eval (.Name n p1) X.env
      standAt p2.atName
      let (f, first) ← holding [ov] (getMethod ov "__init__" pl)
      callWith pos f first (backTo pos (starEach (e :: es) X.env)) (backToKw pos (keywordEach [] X.env))) := by rfl)
    (he : starEach (e :: es) X.env = (false, eval e X.env) :: starEach es X.env := by rfl) (hpl : (backTo pos (starEach es X.env)).any (·.1) = false := by rfl) :
    PE X (.Call (.Attribute (.Name n p1) "__init__" p2) (e :: es) [] pos) (tVeI X.K ta) := by
  refine ⟨fun pins s σ H Q I h => ?_⟩
  obtain ⟨C, mc, hm, h1, h2, h3⟩ := B.ex
  refine PySem.W.methodCall_KW (ld_glob I hg hm ?_ hdb) hc
  refine PySem.W.method_cls I.kIn h1 (PySem.W.cls_value I.kIn h2 h3 (by decide +kernel) ?_)
  show wpAny _ _ (callWith pos (Value.builtin "ValueError.__init__") [] (backTo pos (starEach (e :: es) X.env)) []) _ _ _
  refine PyProof.Rows.callWith_method1 (thn (ha.run pos pins _ σ H _ (I.tok _) h) fun us s1 ⟨vs, H1, I1, r1, a, C, ws, ev, hl, T, ea, q⟩ => ?_) he hpl
  subst ev
  cases r1 with
  | @cons _ u0 _ ur ra rw' =>
    obtain rfl : u0 = Value.ref a := ra
    have hlen : ur.length ≤ sizeLine := by
      rw [← Paired.length rw', sizeLine_eq]
      omega
    exact oinit_ok T I1 ea hlen fun s' J => ⟨.non, H1, J, rfl, q⟩
end
/-- what such an __init__ does -/
def spInit (K : PySem.W.Frag) (f : Str) : Sp := fun vs H Q _ => ∃ (a : Addr) (v : V) (C : Addr), vs = [.ref a, v] ∧ OexC K C ∧ PySem.W.findIn K (.ref C) f = some none ∧ H a = some (exo a C none) ∧
  ∀ dx, H dx = none → dx ≠ a → Q .non (upd (upd H dx (exd dx [(f, v)])) a (exo a C (some dx)))
/-- .. it does it -/
theorem initOk {P : Program} {w : World} {K : PySem.W.Frag} {mg : Str → Option Value} {base : Heap} {qual m f : Str} {st : Stmt} {fI : Addr} {fd : FuncData} {k : Nat}
    (F : Fun K "__init__" qual st fI fd) (Sc : FnScope ["self", f] ["self", f] (defScope st))
    (hbody : ∀ (cdv : Value) (A : Around) (outer : List Env) (s : Shared) (H : Hp) (E : XK),
      PSs (cxOf CX0 P w K mg base ["self", f] qual (defScope st) fI cdv A outer s H E).nox (defBody st) (tSeq (tDrop (tVeI K (tCons (tVar 0) (tCons (tC (.str m)) tNil)))) (tOst K f (tVar 0) (tVar 1)))) :
    FnOk P w K mg base CX0 (k + 1) fI fd ["self", f] (spInit K f) :=
  F.ok Sc (fun vs H Q E ⟨_, _, _, e, _⟩ => by rw [e]; rfl) fun cdv A outer s H vs Q E hr hsp => by
    obtain ⟨a, v, C, rfl, hC, hno, ha, q⟩ := hsp
    exact ⟨_, hbody cdv A outer s H E, ⟨.ref a, rfl, ⟨a, C, [.str m], rfl, by simp, hC, ha, ⟨v, rfl, .ref a, rfl, a, C, rfl, hC, hno, .inl ⟨ha, q⟩⟩⟩⟩⟩
/-- what a class of errors with a field makes of one value: its context is None -/
theorem pmkF {X : Cx} {x : Str} {C fI : Addr} {k : Nat} {fd : FuncData} {ps : List Str} {sp : Sp} {e : Expr} {es : List Expr} {ta : TA} {p pos : Pos} (T : OexC X.K C) (iC : PySem.W.findIn X.K (.ref C) "__init__" = some (some (.ref fI))) (tI : PySem.W.typeIn X.K (.ref fI) = some (.type "function"))
    (F1 : FnOk X.prog X.w X.K X.mg X.base CX0 k fI fd ps sp) (hr : Room (k + 1) X.A) (hb : Binds X.K fd ps []) (hg : Gl X x) (hm : X.mg x = some (.ref C)) (ha : PA X (e :: es) ta)
    (hdb : (x == ("__debug__" : Str)) = false := by decide) (he : starEach (e :: es) X.env = (false, eval e X.env) :: starEach es X.env := by rfl) (hpl : (backTo pos (starEach es X.env)).any (·.1) = false := by rfl) :
    L2N.PMk X (.Call (.Name x p) (e :: es) [] pos) (tMkO C sp [] ta) := fun pins s σ H Q I h => by
  obtain ⟨_, _, _, _, bm, _, _, _, _, _, _, _, _, _, _, hC, hbm⟩ := T.cls
  refine wpAny_Call_Name_kw (ld_glob I hg hm (PySem.W.callWith_K (h₀ := X.base) I.ok.mod.kin T.kC (thn (ha.run pos pins s σ H _ I h) fun us s1 hh => ?_) he hpl) hdb)
  obtain ⟨vs, H1, I1, r1, _, q1⟩ := hh
  refine ⟨I1.kIn, (?_ : wpAny _ _ (call (.ref C) us) _ _ _)⟩
  obtain ⟨hp, g, dr, tk, os⟩ := s1
  obtain ⟨n, hnn⟩ : ∃ n, n = hp.objs.size + 1 := ⟨_, rfl⟩
  have le : hp.objs.size ≤ n := by omega
  have hq := q1 n (I1.hok.fresh le)
  obtain ⟨hx, hhx⟩ : ∃ hx, hx = (hp.push (PySem.W.kdv_tup us)).push (PySem.HandSPX.excO C hp.objs.size) := ⟨_, rfl⟩
  have up : ∀ b o, hp.get? b = some o → hx.get? b = some o := fun b o w => by rw [hhx]; exact Heap.get?_push_of_some _ (Heap.get?_push_of_some _ w)
  have at_n : hx.get? n = some (PySem.HandSPX.excO C hp.objs.size) := by rw [hhx, hnn]; heap_get
  have I2 : Inv X pins σ (upd H1 n (exo n C none)) ⟨hx, g, dr, tk, os⟩ := I1.laid (t' := tk) (a := n) (o := exo n C none) (h' := hx) up le (exo_ok at_n)
  have r2 : Vals (V.ref n :: (vs ++ [])) (Value.ref n :: (us ++ [])) := .cons rfl (r1.append .nil)
  have hl : (Value.ref n :: us ++ []).length = ps.length := r2.length.symm.trans (F1.len _ _ _ _ hq)
  have hus : us.length ≤ sizeLine := by
    have := Paired.length r1
    have := F1.len _ _ _ _ hq
    have := r2.length
    rw [← Paired.length r1, sizeLine_eq]
    omega
  subst hnn hhx
  refine wpAny_call (PySem.HandSPX.call_own F.excBase_ValueError (fun Y => PySem.HandSPX.refsVE_contains Y bm hbm) (I1.kIn _ _ hC) (PySem.W.looks_findIn I1.kIn iC) (fun self => PySem.W.bind_fn I1.kIn self tI) hus
    (codeAny_mono (F1.run _ X.stack _ _ ⟨Value.ref (hp.objs.size + 1) :: us, []⟩ _ _ _ (fun _ _ _ => False) (hr.make C us []) (I2.env0.make C us []) (hb _ (Value.ref (hp.objs.size + 1) :: us) I2.kIn hl) r2 hq) fun r s' hq' => ?_))
  match r, hq' with
  | .error er, w => exact pass0 pins σ _ _ er s' I2 w
  | .ok (.ret u), w =>
    obtain ⟨_, H2, os2, bare2, un2, hok2, rv, rfl, d, fs, ea, ed, hd1, q2⟩ := w
    obtain ⟨h2, g2, d2, t2, os'⟩ := s'
    obtain ⟨t0, G, J, kG, ge, hoe, na⟩ := mk_end0 (d2 := d2) (t2 := t2) I1 le up un2 hok2 os2 bare2 ea ed hd1
    exact ⟨rv, _, _, _, ⟨G, g2, d2, t2, os'⟩, _, .ref C, some d, rfl, J, kG, ge, hoe, ⟨rfl, rfl, fun vs z => by cases z; rfl⟩, rfl, rfl, na, rfl, bare2, raises_own T.exC T.tyC, q2⟩
/-- a class of errors with a field -/
structure ErrF (K : PySem.W.Frag) (mg : Str → Option Value) (base : Heap) (P : Program) (w : World) (k : Nat) (n f : Str) : Prop where
  ex : ∃ (C fI : Addr) (fd : FuncData), mg n = some (.ref C) ∧ OexC K C ∧ PySem.W.findIn K (.ref C) "__init__" = some (some (.ref fI)) ∧ PySem.W.typeIn K (.ref fI) = some (.type "function") ∧
    FnOk P w K mg base CX0 k fI fd ["self", f] (spInit K f) ∧ Binds K fd ["self", f] [] ∧ PySem.W.findIn K (.ref C) f = some none
variable [Memo]
section
variable {X : Cx} {W : WX} {P : List Nat} {k : Nat} {n f : Str} {p pos pos2 : Pos} {e : Expr} {F : Ex}
theorem dx_raiseF (hc : X.calm = true) (tk : L2N.Takes X W) (T : ErrF X.K X.mg X.base X.prog X.w k n f) (hr : Room (k + 1) X.A) (hg : Gl X n) (he : DE X.nox e F)
    (hdb : (n == ("__debug__" : Str)) = false := by decide) (hs : starEach (e :: []) X.env = (false, eval e X.env) :: starEach [] X.env := by rfl) (hpl : (backTo pos (starEach [] X.env)).any (·.1) = false := by rfl) :
    DX X W P (.Raise (some (.Call (.Name n p) [e] [] pos)) none pos2) (xRaiseF n f F) := by
  obtain ⟨C, fI, fd, gC, hC, iC, tI, F1, hb, hno⟩ := T.ex
  refine PS.by (L2N.ps_raise hc tk (pmkF hC iC tI F1 hr hb hg gC (pa_cons he.nox pa_nil hs) hdb hs hpl)) fun D σ H h => ?_
  obtain ⟨G, δ, er, δ', R, h, w⟩ := h
  obtain ⟨⟨y, δ1⟩, e1, h⟩ := bind_some_of h
  obtain ⟨d, e2, h⟩ := bind_some_of h
  cases h
  refine tD_run R e1 fun v G1 H1 R1 st1 rv => ?_
  refine ⟨by simp, fun a ha => ⟨a, v, C, rfl, hC, hno, upd_same, fun dx h1 h2 => ⟨rfl, dx, [(f, v)], upd_same, by rw [upd_ne h2, upd_same], ?_, ?_⟩⟩⟩
  · rw [upd_ne h2] at h1; exact h1
  · have hdx : H1 dx = none := by rw [upd_ne h2] at h1; exact h1
    have eH : upd (del (upd (upd (upd H1 a (exo a C none)) dx (exd dx [(f, v)])) a (exo a C (some dx))) a) dx (.xd [(f, v)]) = upd H1 dx (.xd [(f, v)]) := by
      funext b
      by_cases hb1 : b = dx
      · rw [hb1, upd_same, upd_same]
      · rw [upd_ne hb1, upd_ne hb1]
        by_cases hb2 : b = a
        · rw [hb2, del_same, ha]
        · rw [del_ne hb2, upd_ne hb2, upd_ne hb1, upd_ne hb2]
    rw [eH]
    obtain ⟨G2, R2, st2, _, rp⟩ := rv.shared R1 st1 e2
    exact w σ G2 _ _ _ (R2.new hdx) (st2.trans (Stp.new hdx)) Pin.refl ⟨C, gC, rfl, dx, v, rfl, upd_same, rp⟩
end
end CK
/-! a loop whose suite may raise -/
namespace CK
open PySem PySem.Spec PyProof.Rows L2
variable [Memo]
section
variable {X : Cx} {tg e : Expr}
theorem piNox {t : TI} (h : PI X.nox tg e t) : PI X tg e t := ⟨fun pins s σ H R I hw =>
  wpAny_mono (h.run pins s σ H R (I.wish _) hw) (fun v s1 h1 => wpAny_mono h1 (fun itv s2 h2 => by
    obtain ⟨it, fp, tn, J, H', e, I', T, st, f, r⟩ := h2
    exact ⟨it, fp, tn, J, H', e, I'.unwish, T, st, f, r⟩) fun _ _ z => False.elim z) fun _ _ z => False.elim z⟩
theorem pgNox {t : TG} (h : PG X.nox e t) : PG X e t := ⟨fun pins s σ H v u Q I r q =>
  wpAny_mono (h.run pins s σ H v u Q (I.wish _) r q) (fun _ _ ⟨σ', H', I', q⟩ => ⟨σ', H', I'.unwish, q⟩) fun _ _ z => False.elim z⟩
end
theorem pss_or {X : Cx} {ss : List Stmt} {t u : TS} (h1 : PSs X ss t) (h2 : PSs X ss u) : PSs X ss (fun D σ H => t D σ H ∨ u D σ H) := ⟨fun pins s σ H D I h => h.elim (h1.run pins s σ H D I) (h2.run pins s σ H D I)⟩
/-- the turns of a loop up to the one that raises -/
def loopX (tg : Tg) (xS : Sx) (S : Sm) : List PyData → Sx
  | [], _ => none
  | d :: ds, δ => (tg d δ).bind fun δ1 => match xS δ1 with
    | some r => some r
    | none => (S δ1).bind fun x => match x.1 with
      | .nx => loopX tg xS S ds x.2
      | .ct => loopX tg xS S ds x.2
      | _ => none
def xFor (I : It') (tg : Tg) (xS : Sx) (S : Sm) : Sx := fun δ => (I δ).bind fun x => loopX tg xS S x.1 x.2
theorem for_goX {K : PySem.W.Frag} {mg : Str → Option Value} {W : WX} {P : List Nat} {I : It'} {tg : Tg} {xS : Sx} {S : Sm} {D : Ends} {σ : SS} {H : Hp} (h : tX K mg W P (xFor I tg xS S) D σ H) :
    tFor (tI K I) (tG K P tg) (fun D σ H => tX K mg W P xS D σ H ∨ tS K P S D σ H) D σ H := by
  obtain ⟨G, δ, er, δ', R, e, q⟩ := h
  obtain ⟨⟨items, δ1⟩, e1, e⟩ := bind_some_of e
  refine ⟨G, δ, items, δ1, R, e1, fun J G1 H1 R1 st1 wk => ?_⟩
  refine ⟨fun i m σ2 H2 => m = items.length - i ∧ i ≤ items.length ∧ ∃ (G2 : Hp) (δ2 : List Sl), Rel K G2 H2 σ2 δ2 ∧ Same G1 G2 ∧ Stp σ δ G H σ2 δ2 G2 H2 ∧ Pin P σ σ2 ∧ loopX tg xS S (items.drop i) δ2 = some (er, δ'),
    ⟨items.length, by simp, Nat.zero_le _, G1, δ1, R1, Same.refl _, st1, Pin.refl, e⟩, ?_⟩
  rintro i m σ2 H2 ⟨rfl, hi, G2, δ2, R2, sg, st2, p2, el⟩
  by_cases hlt : i < items.length
  · refine .inr ⟨wk.go i G2 H2 sg R2.sub hlt, fun σ3 H3 => ∃ (G3 : Hp) (δ3 : List Sl), Rel K G3 H3 σ3 δ3 ∧ Same G1 G3 ∧ Stp σ δ G H σ3 δ3 G3 H3 ∧ Pin P σ σ3 ∧ loopX tg xS S (items.drop (i + 1)) δ3 = some (er, δ'),
      fun σ3 H3 h => ⟨items.length - (i + 1), by omega, rfl, hlt, h⟩, fun x H3 y => ?_⟩
    obtain ⟨d, hd, hy⟩ := wk.yld i G2 H2 x H3 sg R2.sub hlt y
    rw [drop_of hd] at el
    obtain ⟨δ3, e3, el⟩ := bind_some_of el
    have go : ∀ {G3 H3 : Hp}, Rel K G3 H3 σ2 δ2 → Same G2 G3 → Stp σ2 δ2 G2 H2 σ2 δ2 G3 H3 → Rp K G3 x d → tG K P tg x σ2 H3 fun σ3 H4 => (fun D σ H => tX K mg W P xS D σ H ∨ tS K P S D σ H) { D with nx := fun σ3 H3 => ∃ (G3 : Hp) (δ3 : List Sl), Rel K G3 H3 σ3 δ3 ∧ Same G1 G3 ∧ Stp σ δ G H σ3 δ3 G3 H3 ∧ Pin P σ σ3 ∧ loopX tg xS S (items.drop (i + 1)) δ3 = some (er, δ'), ct := fun σ3 H3 => ∃ (G3 : Hp) (δ3 : List Sl), Rel K G3 H3 σ3 δ3 ∧ Same G1 G3 ∧ Stp σ δ G H σ3 δ3 G3 H3 ∧ Pin P σ σ3 ∧ loopX tg xS S (items.drop (i + 1)) δ3 = some (er, δ'), bk := D.nx } σ3 H4 := fun {G3 H3} R3 sg3 st3 rp => by
      refine ⟨G3, δ2, d, δ3, R3, rp, e3, fun σ4 R4 st4 p4 => ?_⟩
      cases hx : xS δ3 with
      | some r =>
        rw [hx] at el
        cases el
        exact .inl ⟨G3, δ3, er, δ', R4, hx, fun σ5 G5 H5 cls d5 R5 st5 p5 ea => q σ5 G5 H5 cls d5 R5 (((st2.trans st3).trans st4).trans st5) ((p2.trans p4).trans p5) ea⟩
      | none =>
        rw [hx] at el
        obtain ⟨⟨f4, δ4⟩, e4, el⟩ := bind_some_of el
        refine .inr (tS_run R4 e4 fun σ5 G5 H5 R5 st5 p5 => ?_)
        have stA : Stp σ δ G H σ5 δ4 G5 H5 := ((st2.trans st3).trans st4).trans st5
        have pA : Pin P σ σ5 := (p2.trans p4).trans p5
        have sgA : Same G1 G5 := ((sg.trans sg3).trans st4.same).trans st5.same
        cases f4 with
        | nx => exact ⟨G5, δ4, R5, sgA, stA, pA, el⟩
        | ct => exact ⟨G5, δ4, R5, sgA, stA, pA, el⟩
        | bk => cases el
        | rt r => cases el
    rcases hy with ⟨rfl, rp⟩ | ⟨T, ws, ds, rfl, rfl, hT, rfl, ra⟩
    · exact go R2 (Same.refl _) Stp.refl rp
    · obtain ⟨R3, sg3⟩ := R2.newS (o := .tup ws) hT
      exact go R3 sg3 ((Stp.new (G := G2) hT).share hT (gfree R2.sub hT)) (.tup (SqT.of upd_same) (ra.same sg3))
  · have e0 : i = items.length := by omega
    subst e0
    rw [List.drop_length] at el
    cases el
theorem dx_for {X : Cx} {W : WX} {P : List Nat} {tg iter : Expr} {body : List Stmt} {I : It'} {t : Tg} {xS : Sx} {S : Sm} {pos : Pos} (hp : PassesOwn (model X.prog X.w) X.A X.env X.xe) (hc : X.calm = true) (hi : DI X.nox tg iter I) (hg : PG X.nox tg (tG X.K P t)) (hx : DXs X W P body xS) (hb : DSs X.nox P body S)
    (hs : ∀ x, foldedSetIterable iter X.env x = pure x := by intro _; rfl) : DX X W P (.For tg iter body [] pos) (xFor I t xS S) :=
  PS.by (ps_for hp hc (piNox hi) (pgNox hg) (pss_or hx (PSs.nox hb)) hs) fun D σ H h => for_goX h
/-- a def that raises -/
theorem exGP {P : Program} {w : World} {K : PySem.W.Frag} {mg : Str → Option Value} {base : Heap} {x qual : Str} {st : Stmt} {f : Addr} {fd : FuncData} {N ps : List Str} {k n m : Nat} {Pn : List Nat} {S : Sx}
    (F : Fun K x qual st f fd) (Sc : FnScope N ps (defScope st)) (hn : ps.length = n) (hN : N.length = n + m)
    (hbody : ∀ (cdv : Value) (A : Around) (outer : List Env) (s : Shared) (H : Hp) (E : XK), A.guards = some [] → Room k (A.deeper (envOfC qual (defScope st) s.heap.objs.size f cdv)) →
      L2N.Takes (cxOf (L2N.CX P w) P w K mg base N qual (defScope st) f cdv A outer s H E) (fun cls d _ H => E cls d H) →
      PassesOwn (model P w) (cxOf (L2N.CX P w) P w K mg base N qual (defScope st) f cdv A outer s H E).A (cxOf (L2N.CX P w) P w K mg base N qual (defScope st) f cdv A outer s H E).env (cxOf (L2N.CX P w) P w K mg base N qual (defScope st) f cdv A outer s H E).xe →
      DXs (cxOf (L2N.CX P w) P w K mg base N qual (defScope st) f cdv A outer s H E) (fun cls d _ H => E cls d H) Pn (defBody st) S) : FnG P w K mg base (L2N.CX P w) (k + 1) f fd ps (spE K mg n (fnX m S)) := by
  obtain ⟨oc, od, kV, doc, pm, an, cdv, ct, osl, rfl, lk, hcd⟩ := F.ex
  refine fnG_of lk hcd Sc (fun vs H Q E h => h.1.trans hn.symm) fun A outer s H vs Q E hgd hr hsp => ?_
  refine ⟨_, hbody cdv A outer s H E hgd hr (L2N.takes_of rfl rfl rfl rfl) (passes_of (X := cxOf (L2N.CX P w) P w K mg base N qual (defScope st) f cdv A outer s H E) rfl), ?_⟩
  obtain ⟨hl, G, as, e, R, hp, hx, q⟩ := hsp
  unfold fnX at hx
  rw [if_pos hp] at hx
  obtain ⟨⟨e2, δ'⟩, hS, z⟩ := Option.map_eq_some_iff.mp hx
  cases z
  have es : L2.start N vs = vs.map some ++ List.replicate m none := by
    unfold L2.start
    rw [hN, hl]
    have : n + m - n = m := by omega
    rw [this]
  have al : as.length = n := by rw [← R.len, List.length_map]; exact hl
  have no : ∀ {a : Addr}, ¬ Own (L2.start N vs) (as ++ List.replicate m .no) a := by
    rintro a ⟨i, t, ds, h1, h2⟩
    rcases List.mem_append.mp (List.mem_of_getElem? h2) with h | h
    · have := List.all_eq_true.mp hp _ h
      cases this
    · cases List.eq_of_mem_replicate h
  have R0 : Rel K G H (L2.start N vs) (as ++ List.replicate m .no) := by
    refine ⟨R.sub, by rw [es]; simp [R.len.symm], fun i s h => ?_, fun i j p t u ds es' h1 h2 h3 h4 => absurd ⟨i, t, ds, h1, h2⟩ no, R.inv⟩
    by_cases hi : i < n
    · rw [List.getElem?_append_left (by omega)] at h
      rw [es, List.getElem?_append_left (by rw [List.length_map]; omega)]
      exact R.slot i s h
    · rw [List.getElem?_append_right (by omega)] at h
      rw [List.eq_of_mem_replicate (List.mem_of_getElem? h)]
      trivial
  refine ⟨G, _, e2, δ', R0, hS, fun σ' G' H' cls d R' st pin ea => ?_⟩
  refine q G' H' cls d (plain_rel hp R R' st.same) ⟨fun a o h _ => ⟨(st.keep a o h no).1, plain_own hp⟩, st.dom, st.same, fun a o h => ?_⟩ ea
  rcases st.grow a o h with g | g | g
  · exact .inl g
  · exact .inr (.inl g)
  · exact absurd g no
section
variable {X : Cx} {k n : Nat} {f : Addr} {fd : FuncData} {ps : List Str} {x : Str} {p pos : Pos} {fn : Fn}
/-- a call without arguments -/
theorem pe_callG0 {CT : CXT} {sp : Sp} {E : XK} (hgd : X.A.guards = some []) (F : FnG X.prog X.w X.K X.mg X.base CT k f fd ps sp) (hr : Room k X.A) (hg : Gl X x) (hm : X.mg x = some (.ref f)) (hk : PySem.W.keepIn X.K (.ref f) = true)
    (hb : Binds X.K fd ps []) (hx : Passes CT X E) (hdb : (x == ("__debug__" : Str)) = false := by decide) :
    PE X (.Call (.Name x p) [] [] pos) (fun σ H Q => sp [] H Q E) := ⟨fun pins s σ H Q I h => by
  refine wpAny_Call_Name_kw (ld_glob I hg hm ?_ hdb)
  refine PySem.W.callWith_K0 I.kIn hk ?_
  have hl : (([] : List Value) ++ []).length = ps.length := F.arity _ _ _ _ h
  have hbs := hb s [] I.kIn hl
  exact runG (args := ⟨[], []⟩) hgd F hr hx I hbs .nil h⟩
theorem de_call0 [Still ‹Memo›] (hgd : X.A.guards = some []) (F : FnG X.prog X.w X.K X.mg X.base CX0 k f fd ps (spD X.K n fn)) (hr : Room k X.A) (hg : Gl X x) (hm : X.mg x = some (.ref f)) (hk : PySem.W.keepIn X.K (.ref f) = true)
    (hb : Binds X.K fd ps []) (hn : ([] : List Ag).length = n := by rfl) (hdb : (x == ("__debug__" : Str)) = false := by decide) : DE X (.Call (.Name x p) [] [] pos) (dCall fn []) :=
  PE.by (pe_callG0 hgd F hr hg hm hk hb pass0 hdb) fun σ H Q h => by
    have h2 := call_go (as := []) (E := fun _ _ _ => False) (by decide) hn h
    obtain ⟨G, δ, ps, δ', R, e, q⟩ := h2
    cases e
    exact q [] G H R Stp.refl trivial
end
end CK
/-! a call that raises within an expression -/
namespace CK
open PySem PySem.Spec PyProof.Rows L2
variable [Memo]
def rX (K : PySem.W.Frag) (mg : Str → Option Value) (W : WX) (P : List Nat) (S : Sx) (σ : SS) (H : Hp) : Prop := ∃ (G : Hp) (δ : List Sl) (e : Er) (δ' : List Sl), Rel K G H σ δ ∧ S δ = some (e, δ') ∧
  ∀ (σ' : SS) (G' H' : Hp) (cls : Value) (d : Option Addr), Rel K G' H' σ' δ' → Stp σ δ G H σ' δ' G' H' → Pin P σ σ' → ErAt mg K G' H' e cls d → W cls d σ' H'
abbrev DXE (X : Cx) (W : WX) (P : List Nat) (e : Expr) (S : Sx) : Prop := PE X e (fun σ H _ => rX X.K X.mg W P S σ H)
abbrev DXA (X : Cx) (W : WX) (P : List Nat) (es : List Expr) (S : Sx) : Prop := PA X es (fun σ H _ => rX X.K X.mg W P S σ H)
abbrev DXT (X : Cx) (W : WX) (P : List Nat) (e : Expr) (S : Sx) : Prop := PT X e (fun σ H _ => rX X.K X.mg W P S σ H)
/-- first something that runs through -/
def xPre (F : Ex) (S : Sx) : Sx := fun δ => (F δ).bind fun y => S y.2
/-- a test that raises, or a suite that does -/
def xIfE (T : Sx) (c : Tt) (S S2 : Sx) : Sx := fun δ => match T δ with
  | some r => some r
  | none => xIf c S S2 δ
section
variable {X : Cx} {W : WX} {P : List Nat} {k n : Nat} {f : Addr} {fd : FuncData} {ps : List Str} {x : Str} {p pos pos2 : Pos} {e a b : Expr} {es : List Expr} {as : List Ag} {fx : Fx} {S T S2 : Sx} {F : Ex} {tb : TE} {ts : TA}
theorem xe_call [Still ‹Memo›] (hgd : X.A.guards = some []) (F : FnG X.prog X.w X.K X.mg X.base (L2N.CX X.prog X.w) k f fd ps (spE X.K X.mg n fx)) (hr : Room k X.A) (tk : L2N.Takes X W) (hg : Gl X x) (hm : X.mg x = some (.ref f)) (hk : PySem.W.keepIn X.K (.ref f) = true)
    (hb : Binds X.K fd ps []) (ha : DA X.nox (e :: es) as) (hn : as.length = n := by rfl) (hdb : (x == ("__debug__" : Str)) = false := by decide)
    (he : starEach (e :: es) X.env = (false, eval e X.env) :: starEach es X.env := by rfl) (hpl : (backTo pos (starEach es X.env)).any (·.1) = false := by rfl) :
    DXE X W P (.Call (.Name x p) (e :: es) [] pos) (xCall fx as) :=
  PE.by (pe_callE hgd F hr tk hg hm hk hb (paNox ha) hdb he hpl) fun σ H Q h => callE_go (Q := Q) hn h
theorem xe_ix (ha : DXE X W P a S) (hb : DE X.nox b F) (hs : PlainIx b := by exact fun _ _ => rfl) : DXE X W P (.Subscript a b pos) S :=
  PE.by (pe_ix ix_seq ha hb.nox hs) fun σ H Q h => h
theorem xe_sub (ha : DXE X W P a S) (hb : DE X.nox b F) : DXE X W P (.BinOp a .Sub b pos) S :=
  PE.by (pe_op op_sub ha hb.nox) fun σ H Q h => h
theorem xa_hd (he : DXE X W P e S) (hs : DA X.nox es as) (hq : starEach (e :: es) X.env = (false, eval e X.env) :: starEach es X.env := by rfl) : DXA X W P (e :: es) S :=
  PA.by (pa_cons he (paNox hs) hq) fun σ H Q h => h
theorem xa_tl (he : DE X.nox e F) (hs : DXA X W P es S) (hq : starEach (e :: es) X.env = (false, eval e X.env) :: starEach es X.env := by rfl) : DXA X W P (e :: es) (xPre F S) :=
  PA.by (pa_cons he.nox hs hq) fun σ H Q h => by
    obtain ⟨G, δ, er, δ', R, h, w⟩ := h
    obtain ⟨⟨y, δ1⟩, e1, h⟩ := bind_some_of h
    exact tD_run R e1 fun v G1 H1 R1 st1 rv => ⟨G1, δ1, er, δ', R1, h, fun σ2 G2 H2 cls d R2 st2 p2 ea => w σ2 G2 H2 cls d R2 (st1.trans st2) p2 ea⟩
theorem xe_callA {sp : Sp} (hgd : X.A.guards = some []) (F : FnG X.prog X.w X.K X.mg X.base CX0 k f fd ps sp) (hr : Room k X.A) (hg : Gl X x) (hm : X.mg x = some (.ref f)) (hk : PySem.W.keepIn X.K (.ref f) = true)
    (hb : Binds X.K fd ps []) (ha : DXA X W P (e :: es) S) (hdb : (x == ("__debug__" : Str)) = false := by decide)
    (he : starEach (e :: es) X.env = (false, eval e X.env) :: starEach es X.env := by rfl) (hpl : (backTo pos (starEach es X.env)).any (·.1) = false := by rfl) :
    DXE X W P (.Call (.Name x p) (e :: es) [] pos) S :=
  PE.by (pe_callG (E := fun _ _ _ => False) hgd F hr hg hm hk hb pass0 ha hdb he hpl) fun σ H Q h => h
theorem xt_val (he : DXE X W P e S) (hw : ∀ whole, isTrue e X.env whole = (do let v ← whole; standAt e.pos; holding [v] (truthy v)) := by intro _; rfl) : DXT X W P e S := ⟨(pt_val he hw).run⟩
theorem xt_not (ha : DXT X W P a S) : DXT X W P (.UnaryOp .Not a pos) S := ⟨(pt_not ha).run⟩
theorem dx_retE (he : DXE X W P e S) : DX X W P (.Return (some e) pos) S := PS.by (ps_ret he) fun D σ H h => h
theorem dx_ifE {c : Expr} {s1 s2 : List Stmt} {C : Tt} (ht : DXT X W P c T) (hc : DT X.nox c C) (ha : DXs X W P s1 S) (hb : DXs X W P s2 S2) : DX X W P (.If c s1 s2 pos) (xIfE T C S S2) :=
  PS.by (ps_or (ps_if ht ha hb) (dx_if hc ha hb)) fun D σ H h => by
    obtain ⟨G, δ, e, δ', R, h, q⟩ := h
    unfold xIfE at h
    cases hT : T δ with
    | some r =>
      rw [hT] at h
      cases h
      exact .inl ⟨G, δ, _, _, R, hT, q⟩
    | none =>
      rw [hT] at h
      exact .inr ⟨G, δ, e, δ', R, h, q⟩
end
end CK
/-! try: a caught exception is kept as an object that remembers its error -/
namespace CK
open PySem PySem.Spec PyProof.Rows L2
/-- an exception that stands as it is -/
def EX (a : Addr) (oe : Obj) : HO := .ext fun h => h.get? a = some oe
theorem exX_ok {P : Program} {w : World} {H : Hp} {h : Heap} {a : Addr} {oe : Obj} (e : h.get? a = some oe) : ObjOk P w H h a (EX a oe) := ⟨e, ⟨_, e⟩, fun _ _ z k => k _ z⟩
theorem exX_at {P : Program} {w : World} {H : Hp} {h : Heap} {a : Addr} {oe : Obj} (ok : HOk P w H h) (e : H a = some (EX a oe)) : h.get? a = some oe := (ok a _ e).1
section
variable {X : Cx} {pins : List (Addr × Obj)} {σ : L2.St} {H : Hp} {s : Shared} {a : Addr} {oe : Obj}
theorem invTrack (I : Inv X pins σ H s) (ha : s.heap.get? a = some oe) (na : H a = none) (n0 : X.s_0.heap.get? a = none) (nL : a ≠ X.env.locals) (nc : ∀ v, oe.data ≠ .cell v) (np : ∀ p ∈ X.pn ++ pins, p.1 ≠ a) :
    Inv X pins σ (upd H a (EX a oe)) s := by
  refine ⟨I.ok, I.os, I.bare, ⟨I.base.keep, I.base.slot, fun b o e n hx => ?_, I.base.there, fun b xs e => ?_, fun b o u e => ?_, fun b ps e => ?_⟩, I.loc, I.cell, ?_, fun x c e => ?_, fun p hp => ?_, fun b u e => ?_, I.len⟩
  · rw [upd_ne (fun z => by rw [z, n0] at e; cases e)]; exact I.base.free b o e n hx
  · have q := I.base.tups b xs e
    rw [upd_ne (ne_of_none q na)]; exact q
  · have q := I.base.frzs b o u e
    rw [upd_ne (ne_of_none q na)]; exact q
  · obtain ⟨m, q⟩ := I.base.tbls b ps e
    exact ⟨m, by rw [upd_ne (ne_of_none q na)]; exact q⟩
  · rw [upd_ne (Ne.symm nL)]; exact I.free
  · have hc : c ≠ a := fun z => by
      obtain ⟨v, o, ho, hd⟩ := I.cell x c e
      rw [z, ha] at ho; cases ho
      exact nc _ hd
    rw [upd_ne hc]; exact I.freeC x c e
  · obtain ⟨h1, h2, h3⟩ := I.pin p hp
    exact ⟨h1, by rw [upd_ne (np p hp)]; exact h2, h3⟩
  · by_cases hb : b = a
    · subst hb
      rw [upd_same] at e
      cases e
      exact exX_ok ha
    · rw [upd_ne hb] at e
      exact (I.hok b u e).stay (fun c v _ q => q) (fun c q => by rw [upd_ne (ne_of_none q na)]; exact q) fun c xs q => by rw [upd_ne (ne_of_none q na)]; exact q
end
/-- what an exception that was caught is not -/
structure Apart (X : Cx) (pins : List (Addr × Obj)) (a : Addr) : Prop where
  loc : a ≠ X.env.locals
  out : a ∉ X.fs
  old : X.s_0.heap.get? a = none
  pin : ∀ p ∈ X.pn ++ pins, p.1 ≠ a
section
variable {X : Cx} {pins : List (Addr × Obj)} {σ : L2.St} {H : Hp} {s sI : Shared} {a : Addr} {B h : Heap} {Z : Obj → Prop}
theorem apart_of (hs : X.stack = X.env :: X.outer) (hf : X.env.frame = some X.env.locals) (hex : X.ex = []) (J : Inv X pins σ H sI) (nb : ∀ b o, sI.heap.get? b = some o → b ∉ frs X.stack → B.get? b = some o)
    (fl : HandSPX.FlyingZ B (X.env :: X.outer) a Z h) : Apart X pins a := by
  obtain ⟨oe, vs, he, _, hd⟩ := fl.there
  have nfr : a ∉ frs (X.env :: X.outer) := fun m => by
    obtain ⟨_, o, e, nd⟩ := fl.2.2.1.mem m
    cases he.symm.trans e
    exact nd _ hd
  have free : sI.heap.get? a = none := by
    match q : sI.heap.get? a with
    | none => rfl
    | some o => exact nomatch fl.2.1.symm.trans (nb a o q (hs ▸ nfr))
  refine ⟨fun z => nfr ?_, fun m => nfr ?_, ?_, fun p m z => ?_⟩
  · exact List.mem_filterMap.mpr ⟨_, List.mem_cons_self .., hf.trans (congrArg some z.symm)⟩
  · obtain ⟨v, m, q⟩ := List.mem_filterMap.mp m
    exact List.mem_filterMap.mpr ⟨v, List.mem_cons_of_mem _ m, q⟩
  · match q : X.s_0.heap.get? a with
    | none => rfl
    | some o =>
      obtain ⟨u, z⟩ := J.base.there a o q (by rw [hex]; exact List.not_mem_nil)
      exact nomatch free.symm.trans z
  · have q := (J.pin p m).1
    rw [z] at q
    exact nomatch free.symm.trans q
/-- into a suite, out of it -/
theorem toSuite (a : Addr) (I : Inv X pins σ H s) : Inv (X.suite a (X.pn ++ pins)) [] σ H s where
  ok := I.ok.suite _ _
  os := I.os
  bare := I.bare
  base := I.base
  loc := I.loc
  cell := I.cell
  free := I.free
  freeC := I.freeC
  pin := fun p m => I.pin p (by rwa [List.append_nil] at m)
  hok := I.hok
  len := I.len
theorem offSuite (ok : X.Ok) (I : Inv (X.suite a (X.pn ++ pins)) [] σ H s) : Inv X pins σ H s where
  ok := ok
  os := I.os
  bare := I.bare
  base := I.base
  loc := I.loc
  cell := I.cell
  free := I.free
  freeC := I.freeC
  pin := fun p m => I.pin p (List.mem_append_left _ m)
  hok := I.hok
  len := I.len
end
/-- the ends of a suite, the exception's name gone -/
def endsT (i : Nat) (D : Ends) : Ends := { nx := fun σ H => D.nx (σ.set i none) H, rt := D.rt, bk := fun σ H => D.bk (σ.set i none) H, ct := fun σ H => D.ct (σ.set i none) H }
/-- all that is raised is caught -/
def wAsT (K : PySem.W.Frag) (c : Value) (i : Nat) (ts : TS) (D : Ends) : WX := fun cls d σ H => PySem.W.exmOne K cls c = some true ∧
  ∀ a oe, H a = none → L2N.Zn cls d oe → (∃ vs, oe.data = .fields vs) → ts (endsT i D) (σ.set i (some (.ref a))) (upd H a (EX a oe))
section
variable {X : Cx} {x n : Str} {c : Value} {i : Nat} {body suite : List Stmt} {b₀ : Stmt} {np pos pos' : Pos} {tb : WX → TS} {ts : TS}
theorem suite_end {pins : List (Addr × Obj)} {s : Shared} {D : Ends} {f : Flow} {a : Addr} (ok : X.Ok) (hN : X.N.Nodup) (hi : X.N[i]? = some n) (hln : X.env.kindOf n = some .local)
    (h : SP (X.suite a (X.pn ++ pins)) [] (endsT i D) f s) : wpAny (model X.prog X.w) X.A (do bindName X.env n .none; unbindBehindTheSuite X.env n pos') (fun _ s' => SP X pins D f s') X.xe s := by
  cases f with
  | ret u =>
    obtain ⟨v, σ1, H1, I1, r, q⟩ := h
    exact gone_ok (offSuite ok I1) hN hi hln fun s' J => ⟨v, _, _, J, r, q⟩
  | next =>
    obtain ⟨σ1, H1, I1, q⟩ := h
    exact gone_ok (offSuite ok I1) hN hi hln fun s' J => ⟨_, _, J, q⟩
  | brk =>
    obtain ⟨σ1, H1, I1, q⟩ := h
    exact gone_ok (offSuite ok I1) hN hi hln fun s' J => ⟨_, _, J, q⟩
  | cont =>
    obtain ⟨σ1, H1, I1, q⟩ := h
    exact gone_ok (offSuite ok I1) hN hi hln fun s' J => ⟨_, _, J, q⟩
theorem try_out {pins : List (Addr × Obj)} {s : Shared} {D : Ends} {f : Flow} {xe : Value → Shared → Prop} (ok : X.Ok) (h : SP (X.tr (X.pn ++ pins) xe) [] D f s) : SP X pins D f s := by
  cases f with
  | ret u =>
    obtain ⟨v, σ1, H1, I1, r, q⟩ := h
    exact ⟨v, _, _, I1.ofTry ok, r, q⟩
  | next => exact let ⟨_, _, I1, q⟩ := h; ⟨_, _, I1.ofTry ok, q⟩
  | brk => exact let ⟨_, _, I1, q⟩ := h; ⟨_, _, I1.ofTry ok, q⟩
  | cont => exact let ⟨_, _, I1, q⟩ := h; ⟨_, _, I1.ofTry ok, q⟩
theorem ps_tryT (hs : X.stack = X.env :: X.outer) (hf : X.env.frame = some X.env.locals) (hex : X.ex = []) (hN : X.N.Nodup) (hi : X.N[i]? = some n) (hln : X.env.kindOf n = some .local) (hc : Names X x c)
    (hb : ∀ (W : WX) (pn : List (Addr × Obj)) (xe : Value → Shared → Prop), L2N.Takes (X.tr pn xe) W → PassesOwn (model X.prog X.w) X.A X.env xe → PSs (X.tr pn xe) body (tb W))
    (hsu : ∀ (a : Addr) (pn : List (Addr × Obj)), PSs (X.suite a pn) (b₀ :: suite) ts) :
    PS X (.Try body [.ExceptHandler (some (.Name x np)) (some n) (b₀ :: suite) pos'] [] [] pos) (fun D σ H => tb (wAsT X.K c i ts D) D σ H) := by
  refine ⟨fun pins s σ H D I h => wpAny_Try_except (wpAny_mono ((hb (wAsT X.K c i ts D) (X.pn ++ pins) _ (fun u s1 air => ?cau) PassesOwn.looking).run [] s σ H D (I.toTry _) h) (fun f s1 q => ?_) fun _ _ q => q)⟩
  case cau =>
    obtain ⟨a, B, sI, _, σ1, H1, cls, d, rfl, J0, nb, up, sky, na, os, ag, hcat, hgo⟩ := air
    have J := J0.ofTry I.ok
    refine L2N.Sky.land L2N.Zn.steady (I.ok.frames.trans (congrArg some hs)) hf (by rw [← hs]; exact sky) fun h2 fl2 up2 => ?_
    have A := apart_of hs hf hex J nb fl2
    obtain ⟨oe2, _, g2, z2, d2⟩ := fl2.there
    have J2 := J.landed (s' := { s1 with heap := h2 }) nb fl2.1 (up.trans up2) os ag
    have T2 := toSuite a J2
    refine wpAny_handleBy_cons (codeAny_handlers_test ?_) (fun q => nomatch q)
    have look := PySem.W.exm_one (M := model X.prog X.w) J2.kIn (fun A Q E s k q => wpAny_typeOf_ref (k _ _ g2) (by rw [z2.1]; exact q)) hcat
    have name : ∀ {Q : Value → Shared → Prop} {E : Value → Shared → Prop}, Q c { s1 with heap := h2 } → wpAny (model X.prog X.w) (X.A.mark (some (.ref a))) (eval (.Name x np) X.env) Q E { s1 with heap := h2 } := fun {Q E} q => by
      rcases hc with ⟨hg, hd, hm | ⟨hm, hv, hn⟩⟩
      · exact ld_glob T2 hg hm q hd
      · exact ld_blt T2 hg hm hv q hn hd
    refine name (look.here (codeAny_handlers_suite_as (HandSPX.lands_againZ fl2 fun h3 fl3 up3 => ?_)))
    obtain ⟨oe3, _, g3, z3, d3⟩ := fl3.there
    have J3 := invTrack (J.landed (s' := { s1 with heap := h3 }) nb fl3.1 ((up.trans up2).trans up3) os ag) g3 na A.old A.loc (fun v z => nomatch d3.symm.trans z) A.pin
    refine store_ok (X := X.suite a (X.pn ++ pins)) (v := .ref a) (toSuite a J3) hN hi (.inl hln) rfl (fun s4 T4 => ?_) (.inr hln)
    exact wpAny_mono ((hsu a _).run [] s4 _ _ _ T4 (hgo a oe3 na z3 ⟨_, d3⟩)) (fun f s5 q => suite_end I.ok hN hi hln q) fun _ _ z => z.elim
  · have q := try_out I.ok q
    cases f with
    | next => exact wpAny_execs_nil q
    | ret u => exact q
    | brk => exact q
    | cont => exact q
end
/-! ### the memo: an exception that is kept -/
def erI (e : Er) : Inf := ⟨0, .str e.n, match e.x with
  | none => .none
  | some (f, d) => .tuple [.str f, d]⟩
/-- how a kept exception lies -/
def KeptE (K : PySem.W.Frag) (mg : Str → Option Value) (G H : Hp) (p : Addr) (x : Inf) : Prop :=
  ∃ (e : Er) (oe : Obj) (cls : Value) (d : Option Addr), x = erI e ∧ H p = some (EX p oe) ∧ L2N.Zn cls d oe ∧ (∃ vs, oe.data = .fields vs) ∧ ErAt mg K G H e cls d
theorem soft_xd {C : Addr} {fs : List (Str × V)} : ¬ Soft C (.xd fs) := by rintro (⟨_, z⟩ | ⟨_, _, z⟩ | ⟨_, z⟩) <;> cases z
def errMemo (C : Addr) (K : PySem.W.Frag) (mg : Str → Option Value) : Memo where
  C := C
  J := fun _ _ => True
  stab := fun _ _ _ => trivial
  W := fun _ => False
  M := KeptE K mg
  mst := by
    rintro G G' H H' p x ⟨e, oe, cls, d, h1, h2, h3, h4, C', h5, h6, h7⟩ sg gn st
    refine ⟨e, oe, cls, d, h1, st _ _ h2 soft_ext, h3, h4, C', h5, h6, ?_⟩
    cases hx : e.x with
    | none => rw [hx] at h7; exact h7
    | some y =>
      rw [hx] at h7
      obtain ⟨dd, v, k1, k2, k3⟩ := h7
      exact ⟨dd, v, k1, st _ _ k2 soft_xd, k3.same sg⟩
  mg := fun ⟨e, oe, cls, d, h1, h2, h3, h4, h5⟩ => .inr ⟨_, h2⟩
instance (C : Addr) (K : PySem.W.Frag) (mg : Str → Option Value) : Triv (errMemo C K mg) := ⟨fun _ _ => trivial⟩
instance (C : Addr) (K : PySem.W.Frag) (mg : Str → Option Value) : Still (errMemo C K mg) := ⟨fun _ z => z⟩
/-- the memo keeps exceptions -/
structure IsE (K : PySem.W.Frag) (mg : Str → Option Value) (mm : Memo) : Prop where
  m : ∀ G H p x, mm.M G H p x ↔ KeptE K mg G H p x
theorem isE_err (C : Addr) (K : PySem.W.Frag) (mg : Str → Option Value) : IsE K mg (errMemo C K mg) := ⟨fun _ _ _ _ => Iff.rfl⟩
/-- try: B, except all as slot i: h -/
def sTry (xB : Sx) (B : Sm) (ns : List Str) (i : Nat) (h : Sm) : Sm := fun δ => match xB δ with
  | some (e, δ1) => if ns.contains e.n = true ∧ i < δ1.length then (h (δ1.set i (.mo (erI e)))).bind fun y => some (y.1, y.2.set i .no) else none
  | none => B δ
variable [mm : Memo]
section
variable {K : PySem.W.Frag} {mg : Str → Option Value} {G H : Hp} {σ : SS} {δ : List Sl}
theorem gn_track {a : Addr} {oe : Obj} (na : H a = none) : Stay H (upd H a (EX a oe)) := stay_new na
theorem rel_keep [Triv mm] (E : IsE K mg mm) (R : Rel K G H σ δ) {e : Er} {cls : Value} {d : Option Addr} {a : Addr} {oe : Obj} {i : Nat} (hi : i < δ.length) (na : H a = none) (z : L2N.Zn cls d oe) (f : ∃ vs, oe.data = .fields vs) (ea : ErAt mg K G H e cls d) :
    Rel K G (upd H a (EX a oe)) (σ.set i (some (.ref a))) (δ.set i (.mo (erI e))) := by
  have R1 : Rel K G (upd H a (EX a oe)) σ δ := R.new na
  have hm : mm.M G (upd H a (EX a oe)) a (erI e) := (E.m _ _ _ _).mpr ⟨e, oe, cls, d, rfl, upd_same, z, f, by
    obtain ⟨C, k1, k2, k3⟩ := ea
    refine ⟨C, k1, k2, ?_⟩
    cases hx : e.x with
    | none => rw [hx] at k3; exact k3
    | some y =>
      rw [hx] at k3
      obtain ⟨dd, v, z1, z2, z3⟩ := k3
      exact ⟨dd, v, z1, by rw [upd_ne (ne_of_none z2 na)]; exact z2, z3⟩⟩
  refine ⟨R1.sub, by simp [R1.len], fun j s e => ?_, fun j l p t u ds es h1 h2 h3 h4 => ?_, R1.inv⟩
  · by_cases hj : j = i
    · subst hj
      rw [List.getElem?_set_self hi] at e
      cases e
      rw [List.getElem?_set_self (by rw [R.len]; exact hi)]
      exact ⟨a, rfl, hm⟩
    · rw [List.getElem?_set_ne (Ne.symm hj)] at e ⊢
      exact R1.slot j s e
  · have hj : j ≠ i := fun z => by
      subst z
      rw [List.getElem?_set_self hi] at h2
      cases h2
    have hl : l ≠ i := fun z => by
      subst z
      rw [List.getElem?_set_self hi] at h4
      cases h4
    rw [List.getElem?_set_ne (Ne.symm hj)] at h1 h2
    rw [List.getElem?_set_ne (Ne.symm hl)] at h3 h4
    exact R1.inj j l p t u ds es h1 h2 h3 h4
theorem own_gone {σ : SS} {δ : List Sl} {i : Nat} {a : Addr} {v : Option V} {s : Sl} (hs : ∀ t ds, s ≠ .bx t ds) (h : Own (σ.set i v) (δ.set i s) a) : Own σ δ a := by
  obtain ⟨j, t, ds, h1, h2⟩ := h
  by_cases hj : j = i
  · subst hj
    by_cases hl : j < δ.length
    · rw [List.getElem?_set_self hl] at h2
      cases h2
      exact absurd rfl (hs t ds)
    · rw [List.getElem?_eq_none (by simp; omega)] at h2
      cases h2
  · rw [List.getElem?_set_ne (Ne.symm hj)] at h1 h2
    exact ⟨j, t, ds, h1, h2⟩
theorem nb_mo {x : Inf} : ∀ (t : Bt) (ds : List PyData), Sl.mo x ≠ .bx t ds := fun _ _ z => by cases z
theorem nb_no : ∀ (t : Bt) (ds : List PyData), Sl.no ≠ .bx t ds := fun _ _ z => by cases z
theorem rel_gone (R : Rel K G H σ δ) (i : Nat) : Rel K G H (σ.set i none) (δ.set i .no) := by
  refine ⟨R.sub, by simp [R.len], fun j s e => ?_, fun j l p t u ds es h1 h2 h3 h4 => ?_, R.inv⟩
  · by_cases hj : j = i
    · subst hj
      by_cases hl : j < δ.length
      · rw [List.getElem?_set_self hl] at e
        cases e; trivial
      · rw [List.getElem?_eq_none (by simp; omega)] at e
        cases e
    · rw [List.getElem?_set_ne (Ne.symm hj)] at e ⊢
      exact R.slot j s e
  · have hj : j ≠ i := fun z => by
      subst z
      by_cases hl : j < δ.length
      · rw [List.getElem?_set_self hl] at h2; cases h2
      · rw [List.getElem?_eq_none (by simp; omega)] at h2; cases h2
    have hl : l ≠ i := fun z => by
      subst z
      by_cases hl : l < δ.length
      · rw [List.getElem?_set_self hl] at h4; cases h4
      · rw [List.getElem?_eq_none (by simp; omega)] at h4; cases h4
    rw [List.getElem?_set_ne (Ne.symm hj)] at h1 h2
    rw [List.getElem?_set_ne (Ne.symm hl)] at h3 h4
    exact R.inj j l p t u ds es h1 h2 h3 h4
end
section
variable {X : Cx} {P : List Nat} {x n : Str} {c : Value} {i : Nat} {body suite : List Stmt} {b₀ : Stmt} {np pos pos' : Pos} {xB : Sx} {B h : Sm} {ns : List Str}
theorem ds_try [Triv mm] [Still mm] (E : IsE X.K X.mg mm) (hs : X.stack = X.env :: X.outer) (hf : X.env.frame = some X.env.locals) (hex : X.ex = []) (hN : X.N.Nodup) (hi : X.N[i]? = some n) (hln : X.env.kindOf n = some .local) (hc : Names X x c)
    (hcat : ∀ m ∈ ns, ∀ C, X.mg m = some (.ref C) → PySem.W.exmOne X.K (.ref C) c = some true) (hiP : P.contains i = false)
    (hbx : ∀ (W : WX) (pn : List (Addr × Obj)) (xe : Value → Shared → Prop), L2N.Takes (X.tr pn xe) W → DXs (X.tr pn xe) W P body xB)
    (hbn : ∀ (pn : List (Addr × Obj)) (xe : Value → Shared → Prop), DSs (X.tr pn xe).nox P body B)
    (hsu : ∀ (a : Addr) (pn : List (Addr × Obj)), DSs (X.suite a pn) P (b₀ :: suite) h) :
    DS X P (.Try body [.ExceptHandler (some (.Name x np)) (some n) (b₀ :: suite) pos'] [] [] pos) (sTry xB B ns i h) := by
  refine PS.by (ps_tryT (ts := tS X.K P h) (tb := fun W D σ H => tX X.K X.mg W P xB D σ H ∨ tS X.K P B D σ H) hs hf hex hN hi hln hc (fun W pn xe tk _ => ⟨fun pins s σ H D I q => q.elim ((hbx W pn xe tk).run pins s σ H D I) ((hbn pn xe).nox.run pins s σ H D I)⟩) hsu) fun D σ H hh => ?_
  obtain ⟨G, δ, fl, δ', R, e, q⟩ := hh
  unfold sTry at e
  cases hx : xB δ with
  | none =>
    rw [hx] at e
    exact .inr ⟨G, δ, fl, δ', R, e, q⟩
  | some y =>
    obtain ⟨er, δ1⟩ := y
    rw [hx] at e
    obtain ⟨⟨c1, c2⟩, e⟩ := (show (ns.contains er.n = true ∧ i < δ1.length) ∧ ((h (δ1.set i (.mo (erI er)))).bind fun y => some (y.1, y.2.set i .no)) = some (fl, δ') by
      by_cases z : ns.contains er.n = true ∧ i < δ1.length
      · exact ⟨z, by simpa only [if_pos z] using e⟩
      · simp only [if_neg z] at e; cases e)
    obtain ⟨⟨fl2, δ2⟩, e2, e⟩ := bind_some_of e
    cases e
    refine .inl ⟨G, δ, er, δ1, R, hx, fun σ1 G1 H1 cls d R1 st1 p1 ea => ⟨?_, fun a oe na z f => ?_⟩⟩
    · obtain ⟨C, k1, k2, _⟩ := ea
      rw [k2]
      exact hcat _ (by rw [List.contains_eq_mem] at c1; exact of_decide_eq_true c1) C k1
    · have R2 := rel_keep (i := i) E R1 c2 na z f ea
      refine ⟨G1, _, fl2, δ2, R2, e2, fun σ3 G3 H3 R3 st3 p3 => ?_⟩
      have st2 : Stp σ1 δ1 G1 H1 (σ1.set i (some (.ref a))) (δ1.set i (.mo (erI er))) G1 (upd H1 a (EX a oe)) := by
        refine ⟨fun b o hb nb => ⟨fun _ => by rw [upd_ne (ne_of_none hb na)]; exact hb, fun w => nb (own_gone nb_mo w)⟩, fun b hb => ?_, Same.refl _, fun _ _ w => .inl w⟩
        by_cases hba : b = a
        · rw [hba]; exact na
        · rw [upd_ne hba] at hb; exact hb
      have p2 : Pin P σ1 (σ1.set i (some (.ref a))) := Pin.set hiP
      have st4 : Stp σ3 δ2 G3 H3 (σ3.set i none) (δ2.set i .no) G3 H3 :=
        ⟨fun b o hb nb => ⟨fun _ => hb, fun w => nb (own_gone nb_no w)⟩, fun _ w => w, Same.refl _, fun _ _ w => .inl w⟩
      have fin := q (σ3.set i none) G3 H3 (rel_gone R3 i) ((st1.trans st2).trans (st3.trans st4)) ((p1.trans p2).trans (p3.trans (Pin.set hiP)))
      cases fl2 with
      | nx => exact fin
      | bk => exact fin
      | ct => exact fin
      | rt r =>
        intro v rw_
        refine fin v ?_
        cases r with
        | bx t ds =>
          obtain ⟨p, ws, k1, k2, k3, k4, k5, k6⟩ := rw_
          refine ⟨p, ws, k1, k2, k3, fun w => k4 (own_gone nb_no w), ?_, k6⟩
          rcases k5 with k5 | k5
          · refine .inl (st1.dom p ?_)
            by_cases hpa : p = a
            · rw [hpa]; exact na
            · rw [upd_ne hpa] at k5; exact k5
          · have ow := own_gone nb_mo k5
            cases hp : H p with
            | none => exact .inl rfl
            | some o => exact .inr (Classical.byContradiction fun nn => (st1.keep p o hp nn).2 ow)
        | no => exact rw_
        | im d => exact rw_
        | fz d => exact rw_
        | raw d => exact rw_
        | mo x => exact rw_
end
end CK
/-! what is asked of a kept exception: isinstance, its field -/
namespace CK
open PySem PySem.Spec PyProof.Rows L2
/-- what a class of errors must say -/
structure XcC (K : PySem.W.Frag) (C : Addr) : Prop where
  ga : PySem.W.findIn K (.ref C) "__getattribute__" = some (some (.builtin "BaseException.__getattribute__"))
  gg : PySem.W.findIn K (.ref C) "__getattr__" = some none
  ex : PySem.W.subIn K (.ref C) (.type "BaseException") = some true
  hd : PySem.W.hasDictIn K C = true
  cl : PySem.W.findIn K (.ref C) "__class__" = some (some (.builtin "object.__class__"))
  mo : PySem.W.mroIn K C (.type "object") = some true
structure XgC (K : PySem.W.Frag) : Prop where
  gt : PySem.W.specialIn K (.builtin "object.__class__") "__get__" = some (some (.builtin "getset_descriptor.__get__"))
  tk : PySem.W.takesIn K (.builtin "object.__class__") = some true
theorem XcC.is {K : PySem.W.Frag} {C : Addr} (T : XcC K C) : (PySem.W.clsIn K C).isSome = true := by
  obtain ⟨cd, hc, _⟩ := PySem.W.any_some T.hd
  rw [hc]; rfl
/-- a kept exception of the class C -/
def KpC (H : Hp) (a C : Addr) (oe : Obj) (d : Option Addr) : Prop := H a = some (EX a oe) ∧ L2N.Zn (.ref C) d oe ∧ (∃ vs, oe.data = .fields vs) ∧ (d = none ∨ ∃ dd fs, d = some dd ∧ H dd = some (.xd fs))
section
variable {X : Cx} {pins : List (Addr × Obj)} {σ : L2.St} {H : Hp} {s : Shared}
theorem kp_inst (I : Inv X pins σ H s) {a C : Addr} {oe : Obj} {d : Option Addr} (h : KpC H a C oe d) : ∃ od, PySem.W.InstAt s.heap a oe C od := by
  obtain ⟨h1, h2, ⟨vs, hv⟩, h4⟩ := h
  have ha := exX_at I.hok h1
  rcases h4 with rfl | ⟨dd, fs, rfl, hx⟩
  · exact ⟨none, ha, h2.1, by unfold PySem.W.notCls; rw [hv] <;> rfl, by rw [h2.2.1]; trivial⟩
  · obtain ⟨mA, hns, _⟩ : ObjOk X.prog X.w H s.heap dd (.xd fs) := I.hok dd _ hx
    obtain ⟨od, ho, _⟩ := lookIn_ns hns
    exact ⟨some od, ha, h2.1, by unfold PySem.W.notCls; rw [hv] <;> rfl, by rw [h2.2.1]; exact ho⟩
end
def rIsX (K : PySem.W.Frag) (cv : Value) : List V → Hp → VK → Prop := fun xs H Q => ∃ (a C : Addr) (oe : Obj) (d : Option Addr) (c : V) (b : Bool), xs = [.ref a, c] ∧ (∀ u, RelV c u → u = cv) ∧ KpC H a C oe d ∧ XcC K C ∧ PySem.W.kitOne K (.ref C) cv = some b ∧ Q (.bl b) H
theorem call_isX {X : Cx} {cv : Value} (G : XgC X.K) : CallR X (.builtin "isinstance") (rIsX X.K cv) := by
  intro pins s σ H xs us Q I rv h
  obtain ⟨a, C, oe, d, c, b, rfl, hc, hk, T, e, q⟩ := h
  cases rv with
  | cons r1 rr =>
    cases rr with
    | cons r2 r3 =>
      cases r3
      cases r1
      have := hc _ r2
      subst this
      obtain ⟨od, J⟩ := kp_inst I hk
      exact PySem.W.kia_one (PySem.W.kitx_exc T.is T.ga T.gg T.ex T.cl G.gt G.tk T.mo) I.kIn J e (fun z => nomatch z) fun tk => ⟨.bl b, H, I.kept (t' := tk) fun _ _ z => z, rfl, q⟩
def rIsXT (K : PySem.W.Frag) (Ds : List Addr) : List V → Hp → VK → Prop := fun xs H Q => ∃ (a C tp : Addr) (oe : Obj) (d : Option Addr) (b : Bool), xs = [.ref a, .ref tp] ∧ H tp = some (.tup (Ds.map V.ref)) ∧ KpC H a C oe d ∧ XcC K C ∧ PySem.W.kitAny K (.ref C) (Ds.map Value.ref) = some b ∧ Q (.bl b) H
theorem vals_refs : ∀ {Ds : List Addr} {its : List Value}, Vals (Ds.map V.ref) its → its = Ds.map Value.ref
  | [], _, h => by cases h; rfl
  | D :: Ds, _, h => by
    cases h with
    | cons a b =>
      cases a
      rw [vals_refs b]; rfl
theorem call_isXT {X : Cx} {Ds : List Addr} (G : XgC X.K) : CallR X (.builtin "isinstance") (rIsXT X.K Ds) := by
  intro pins s σ H xs us Q I rv h
  obtain ⟨a, C, tp, oe, d, b, rfl, ht, hk, T, e, q⟩ := h
  cases rv with
  | cons r1 rr =>
    cases rr with
    | cons r2 r3 =>
      cases r3
      cases r1
      cases r2
      obtain ⟨od, J⟩ := kp_inst I hk
      obtain ⟨its, r, ⟨⟨cls, dd, data, sl⟩, ho, hc, n, hd⟩, _⟩ := I.tuple (.inl (.inl ht))
      simp only at hc hd
      subst hc hd
      have := vals_refs r
      subst this
      exact PySem.W.kia_tup (PySem.W.kitx_exc T.is T.ga T.gg T.ex T.cl G.gt G.tk T.mo) I.kIn J ho e (fun z => nomatch z) fun tk => ⟨.bl b, H, I.kept (t' := tk) fun _ _ z => z, rfl, q⟩
variable [mm : Memo]
/-- the name of an error's class; its field -/
def nmX (x : Inf) : Option Str := match x.a with
  | .str n => some n
  | _ => none
def fldX (f : Str) (x : Inf) : Option PyData := match x.b with
  | .tuple [.str g, d] => if g = f then some d else none
  | _ => none
def moX : Option Sl → Option Inf
  | some (.mo x) => some x
  | _ => none
def dIsX (Ns t : List Str) (i : Nat) : Ex := fun δ => (moX δ[i]?).bind fun x => (nmX x).bind fun n => if Ns.contains n = true then some (.im (.bool (t.contains n)), δ) else none
def dFldX (Ns : List Str) (f : Str) (i : Nat) : Ex := fun δ => (moX δ[i]?).bind fun x => (nmX x).bind fun n => if Ns.contains n = true then (fldX f x).bind fun d => some (.im d, δ) else none
def sCpy (j i : Nat) : Sm := fun δ => (moX δ[i]?).bind fun x => if j < δ.length then some (.nx, δ.set j (.mo x)) else none
def noneX : Option Sl → Option Bool
  | some (.mo _) => some false
  | some (.im .none) => some true
  | _ => none
def dNoneX (i : Nat) : Ex := fun δ => (noneX δ[i]?).bind fun b => some (.im (.bool b), δ)
section
variable {K : PySem.W.Frag} {mg : Str → Option Value} {G H : Hp} {σ : SS} {δ : List Sl}
theorem moX_at {i : Nat} {x : Inf} (h : moX δ[i]? = some x) : δ[i]? = some (.mo x) := by
  unfold moX at h
  split at h
  · rename_i y e; cases h; exact e
  · cases h
theorem kept_at (E : IsE K mg mm) (R : Rel K G H σ δ) {i : Nat} {x : Inf} (h : moX δ[i]? = some x) : ∃ p, σ[i]? = some (some (.ref p)) ∧ KeptE K mg G H p x := by
  obtain ⟨p, e, m⟩ := R.slot i _ (moX_at h)
  exact ⟨p, getD_some e, (E.m _ _ _ _).mp m⟩
theorem kept_kp {p : Addr} {x : Inf} {n : Str} (h : KeptE K mg G H p x) (e : nmX x = some n) : ∃ C oe d, mg n = some (.ref C) ∧ KpC H p C oe d := by
  obtain ⟨er, oe, cls, d, rfl, h2, h3, h4, C, h5, h6, h7⟩ := h
  cases e
  refine ⟨C, oe, d, h5, h2, by rw [← h6]; exact h3, h4, ?_⟩
  cases hx : er.x with
  | none => rw [hx] at h7; exact .inl h7
  | some y =>
    rw [hx] at h7
    obtain ⟨dd, v, k1, k2, _⟩ := h7
    exact .inr ⟨dd, _, k1, k2⟩
end
section
variable {X : Cx} {P : List Nat} {i j : Nat} {x y A : Str} {px p p2 pos : Pos} {Ns t : List Str}
/-- isinstance(e, A) -/
theorem de_isX (E : IsE X.K X.mg mm) (G : XgC X.K) (hx : ∀ n ∈ Ns, ∀ C, X.mg n = some (.ref C) → XcC X.K C) {c : V} {cv : Value} (hcv : ∀ u, RelV c u → u = cv) (hA : PE X (.Name A p2) (tC c))
    (hk : ∀ n ∈ Ns, ∀ C, X.mg n = some (.ref C) → PySem.W.kitOne X.K (.ref C) cv = some (t.contains n)) (hg : Gl X "isinstance") (hm : X.mg "isinstance" = none)
    (hN : X.N[i]? = some x := by rfl) (hv : Vis X.env.scope x := by first | exact Or.inl rfl | exact Or.inr (Or.inl rfl) | exact Or.inr (Or.inr rfl)) (hd : (x == ("__debug__" : Str)) = false := by decide) (hcd : (x == ("__classdict__" : Str)) = false := by decide)
    (hs : starEach [.Name x px, .Name A p2] X.env = (false, eval (.Name x px) X.env) :: starEach [.Name A p2] X.env := by rfl) (hs2 : starEach [.Name A p2] X.env = (false, eval (.Name A p2) X.env) :: starEach [] X.env := by rfl)
    (hpl : (backTo pos (starEach [.Name A p2] X.env)).any (·.1) = false := by rfl) : DE X (.Call (.Name "isinstance" p) [.Name x px, .Name A p2] [] pos) (dIsX Ns t i) :=
  PE.by (pe_callB (call_isX (cv := cv) G) hg hm (by decide +kernel) (pa_cons (pe_var hN hv hd hcd) (pa_cons hA pa_nil hs2) hs) (he := hs) (hpl := hpl)) fun σ H Q h => by
    obtain ⟨G1, δ, r, δ', R, e, q⟩ := h
    obtain ⟨z, e1, e⟩ := bind_some_of e
    obtain ⟨n, e2, e⟩ := bind_some_of e
    obtain ⟨hn, e⟩ := of_ite e
    cases e
    obtain ⟨a, k1, k2⟩ := kept_at E R e1
    obtain ⟨C, oe, d, k3, k4⟩ := kept_kp k2 e2
    have hn : n ∈ Ns := by rw [List.contains_eq_mem] at hn; exact of_decide_eq_true hn
    exact ⟨_, k1, a, C, oe, d, c, _, rfl, hcv, k4, hx n hn C k3, hk n hn C k3, q (.bl _) _ _ R Stp.refl (.bl _)⟩
theorem de_fldX {f : Str} (E : IsE X.K X.mg mm) (hx : ∀ n ∈ Ns, ∀ C, X.mg n = some (.ref C) → XcC X.K C ∧ PySem.W.findIn X.K (.ref C) f = some none)
    (hN : X.N[i]? = some x := by rfl) (hv : Vis X.env.scope x := by first | exact Or.inl rfl | exact Or.inr (Or.inl rfl) | exact Or.inr (Or.inr rfl)) (hd : (x == ("__debug__" : Str)) = false := by decide) (hcd : (x == ("__classdict__" : Str)) = false := by decide)
    (hb : attributeBase (.Name x px) f X.env (eval (.Name x px) X.env) = eval (.Name x px) X.env := by rfl) : DE X (.Attribute (.Name x px) f pos) (dFldX Ns f i) := by
  refine ⟨fun pins s σ H Q I h => ?_⟩
  obtain ⟨G1, δ, r, δ', R, e, q⟩ := h
  obtain ⟨z, e1, e⟩ := bind_some_of e
  obtain ⟨n, e2, e⟩ := bind_some_of e
  obtain ⟨hn, e⟩ := (show Ns.contains n = true ∧ ((fldX f z).bind fun d => some (Sl.im d, δ)) = some (r, δ') by
    by_cases w : Ns.contains n = true
    · rw [if_pos w] at e; exact ⟨w, e⟩
    · rw [if_neg w] at e; cases e)
  obtain ⟨fd, e3, e⟩ := bind_some_of e
  cases e
  have hn : n ∈ Ns := by rw [List.contains_eq_mem] at hn; exact of_decide_eq_true hn
  obtain ⟨a, k1, k2⟩ := kept_at E R e1
  refine attr_of hb (thn ((pe_var (pos := px) hN hv hd hcd).run pins s σ H (fun v H1 => v = .ref a ∧ H1 = H) I ⟨_, k1, rfl, rfl⟩) fun u s1 hh => ?_)
  obtain ⟨w, H1, I1, rw_, rfl, rfl⟩ := hh
  obtain rfl : u = Value.ref a := rw_
  obtain ⟨C, oe, d, k3, k4⟩ := kept_kp k2 e2
  obtain ⟨T, hno⟩ := hx n hn C k3
  obtain ⟨er, oe2, cls, d2, rfl, m2, m3, m4, C2, m5, m6, m7⟩ := k2
  cases e2
  unfold fldX erI at e3
  cases hxx : er.x with
  | none => rw [hxx] at e3; cases e3
  | some y =>
    obtain ⟨g, d3⟩ := y
    rw [hxx] at e3 m7
    obtain ⟨hgf, e3⟩ := of_ite e3
    cases e3
    subst hgf
    obtain ⟨dd, v, z1, z2, z3⟩ := m7
    subst z1
    subst m6
    rw [m5] at k3
    cases k3
    obtain ⟨mA, hns, hr⟩ : ObjOk X.prog X.w H1 s1.heap dd (.xd [(g, v)]) := I1.hok dd _ z2
    obtain ⟨od, ho, hl⟩ := lookIn_ns hns
    have l : List.lookup g [(g, v)] = some v := by simp [List.lookup]
    obtain ⟨u, hu, ru⟩ := RelO.some_of (v := v) (o := mA g) (by rw [← l]; exact hr g)
    obtain ⟨vs, hv⟩ := m4
    have J : PySem.W.InstAt s1.heap a oe2 C (some od) := ⟨exX_at I1.hok m2, m3.1, by unfold PySem.W.notCls; rw [hv] <;> rfl, by rw [m3.2.1]; exact ho⟩
    exact HandSPX.exc_get I1.kIn J T.ga T.gg T.ex (PySem.W.findObj_own T.hd hno rfl (by rw [hl, hu])) (handed_of ru) ⟨v, H1, I1.tok _, ru, q v _ _ R Stp.refl z3⟩
/-- isinstance(e, (A, ..)) -/
theorem de_isXT (E : IsE X.K X.mg mm) (G : XgC X.K) (hx : ∀ n ∈ Ns, ∀ C, X.mg n = some (.ref C) → XcC X.K C) {Ds : List Addr} {es : List Expr} {k : Nat} {ta : TA} (hA : PA X es ta) (hta : ∀ σ H (Q : List V → Hp → Prop), Q (Ds.map V.ref) H → ta σ H Q) (hD : (Ds.map V.ref).length ≤ sizeLine)
    (hk : ∀ n ∈ Ns, ∀ C, X.mg n = some (.ref C) → PySem.W.kitAny X.K (.ref C) (Ds.map Value.ref) = some (t.contains n)) (hg : Gl X "isinstance") (hm : X.mg "isinstance" = none)
    (hN : X.N[i]? = some x := by rfl) (hv : Vis X.env.scope x := by first | exact Or.inl rfl | exact Or.inr (Or.inl rfl) | exact Or.inr (Or.inr rfl)) (hd : (x == ("__debug__" : Str)) = false := by decide) (hcd : (x == ("__classdict__" : Str)) = false := by decide)
    (hs : starEach [.Name x px, .Tuple es k p2] X.env = (false, eval (.Name x px) X.env) :: starEach [.Tuple es k p2] X.env := by rfl) (hs2 : starEach [.Tuple es k p2] X.env = (false, eval (.Tuple es k p2) X.env) :: starEach [] X.env := by rfl)
    (hpl : (backTo pos (starEach [.Tuple es k p2] X.env)).any (·.1) = false := by rfl) : DE X (.Call (.Name "isinstance" p) [.Name x px, .Tuple es k p2] [] pos) (dIsX Ns t i) :=
  PE.by (pe_callB (call_isXT (Ds := Ds) G) hg hm (by decide +kernel) (pa_cons (pe_var hN hv hd hcd) (pa_cons (pe_tup hA) pa_nil hs2) hs) (he := hs) (hpl := hpl)) fun σ H Q h => by
    obtain ⟨G1, δ, r, δ', R, e, q⟩ := h
    obtain ⟨z, e1, e⟩ := bind_some_of e
    obtain ⟨n, e2, e⟩ := bind_some_of e
    obtain ⟨hn, e⟩ := of_ite e
    cases e
    obtain ⟨a, k1, k2⟩ := kept_at E R e1
    obtain ⟨C, oe, d, k3, k4⟩ := kept_kp k2 e2
    have hn : n ∈ Ns := by rw [List.contains_eq_mem] at hn; exact of_decide_eq_true hn
    refine ⟨_, k1, hta _ _ _ ⟨hD, fun tp ht => ?_⟩⟩
    have k5 : KpC (upd H tp (.tup (Ds.map V.ref))) a C oe d := by
      obtain ⟨m1, m2, m3, m4⟩ := k4
      refine ⟨by rw [upd_ne (ne_of_none m1 ht)]; exact m1, m2, m3, m4.imp id ?_⟩
      rintro ⟨dd, fs, z1, z2⟩
      exact ⟨dd, fs, z1, by rw [upd_ne (ne_of_none z2 ht)]; exact z2⟩
    exact ⟨a, C, tp, oe, d, _, rfl, upd_same, k5, hx n hn C k3, hk n hn C k3, q (.bl _) _ _ (R.new ht) (Stp.new ht) (.bl _)⟩
/-- y = x, a kept exception -/
theorem ds_cpy [Triv mm] {px' : Pos} (hNN : X.N.Nodup) (hj : X.N[j]? = some y) (hy : Loc X.env.scope y) (hp : P.contains j = false := by rfl)
    (hN : X.N[i]? = some x := by rfl) (hv : Vis X.env.scope x := by first | exact Or.inl rfl | exact Or.inr (Or.inl rfl) | exact Or.inr (Or.inr rfl)) (hd : (x == ("__debug__" : Str)) = false := by decide) (hcd : (x == ("__classdict__" : Str)) = false := by decide)
    (hs : swapsWith (.Name x px) (some (.Name y px')) pos.line X.env = pure false := by rfl) (hf : X.fn y = true ∨ X.env.scope.names.lookup y = some .local := by first | exact .inl rfl | exact .inr rfl | assumption) :
    DS X P (.Assign [.Name y px'] (.Name x px) pos) (sCpy j i) := PS.by (ps_set hNN hj hy (pe_var hN hv hd hcd) hs hf) fun D σ H h => by
  obtain ⟨G, δ, fl, δ', R, e, q⟩ := h
  obtain ⟨z, e1, e⟩ := bind_some_of e
  obtain ⟨hl, e⟩ := of_ite e
  cases e
  have hm := moX_at e1
  obtain ⟨a, k1, k2⟩ := R.slot i _ hm
  have k1 := getD_some k1
  have nb : ∀ {k : Nat} {p : Addr} {u : Bt} {ds : List PyData}, (δ.set j (.mo z))[k]? = some (.bx u ds) → k ≠ j := fun h w => by
    subst w
    rw [List.getElem?_set_self hl] at h
    cases h
  have R2 : Rel X.K G H (σ.set j (some (.ref a))) (δ.set j (.mo z)) := by
    refine ⟨R.sub, by simp [R.len], fun k s e => ?_, fun k l p t u ds es h1 h2 h3 h4 => ?_, R.inv⟩
    · by_cases hk : k = j
      · subst hk
        rw [List.getElem?_set_self hl] at e
        cases e
        rw [List.getElem?_set_self (by rw [R.len]; exact hl)]
        exact ⟨a, rfl, k2⟩
      · rw [List.getElem?_set_ne (Ne.symm hk)] at e ⊢
        exact R.slot k s e
    · have hk := nb (p := p) h2
      have hl' := nb (p := p) h4
      rw [List.getElem?_set_ne (Ne.symm hk)] at h1 h2
      rw [List.getElem?_set_ne (Ne.symm hl')] at h3 h4
      exact R.inj k l p t u ds es h1 h2 h3 h4
  exact ⟨_, k1, q _ G H R2 ⟨fun b o hb n => ⟨fun _ => hb, fun w => n (own_gone nb_mo w)⟩, fun _ w => w, Same.refl _, fun _ _ w => .inl w⟩ (Pin.set hp)⟩
/-- x is None, x a kept exception or None -/
theorem dt_noneX {jj : Nat} (hN : X.N[i]? = some x := by rfl) (hv : Vis X.env.scope x := by first | exact Or.inl rfl | exact Or.inr (Or.inl rfl) | exact Or.inr (Or.inr rfl)) (hd : (x == ("__debug__" : Str)) = false := by decide) (hcd : (x == ("__classdict__" : Str)) = false := by decide) :
    DT X (.Compare (.Name x px) [.Is] [.Constant .none jj p2] pos) (tOfE (dNoneX i)) := PT.by (pt_cmpR op_isN (pe_var hN hv hd hcd) pe_non (nomark _)) fun σ H Q h => by
  obtain ⟨G, δ, b, δ', R, e, q⟩ := h
  obtain ⟨⟨r1, δ1⟩, e1, e⟩ := bind_some_of e
  obtain ⟨b1, e2, e⟩ := bind_some_of e
  obtain ⟨b2, e3, e1⟩ := bind_some_of e1
  cases e1
  cases e2
  cases e
  unfold noneX at e3
  split at e3
  · rename_i z hz
    cases e3
    obtain ⟨p, k1, _⟩ := R.slot i _ hz
    exact ⟨_, getD_some k1, rfl, _, rfl, q _ _ R Stp.refl⟩
  · rename_i hz
    cases e3
    obtain ⟨v, k1, k2⟩ := R.im hz
    cases k2
    exact ⟨_, k1, rfl, _, rfl, q _ _ R Stp.refl⟩
  · cases e3
end
/-- a result that is shared from the start -/
def dShr (F : Ex) : Ex := fun δ => (F δ).bind fun y => y.1.sh.bind fun d => some (.im d, y.2)
theorem de_shr {X : Cx} {e : Expr} {F : Ex} (h : DE X e F) : DE X e (dShr F) := PE.by h fun σ H Q hh => by
  obtain ⟨G, δ, r, δ', R, e1, q⟩ := hh
  obtain ⟨⟨y, δ1⟩, e2, e1⟩ := bind_some_of e1
  obtain ⟨d, e3, e1⟩ := bind_some_of e1
  cases e1
  refine tD_run R e2 fun v G1 H1 R1 st1 rv => ?_
  obtain ⟨G2, R2, st2, _, rp⟩ := rv.shared R1 st1 e3
  exact q v G2 H1 R2 st2 rp
/-! ### what the text's top must say of errors -/
structure PErr (K : PySem.W.Frag) (mg : Str → Option Value) (n : Str) where
  C : Addr
  mg : mg n = some (.ref C)
  q : PySem.W.excIn K C [.type "ValueError", .type "Exception", .type "BaseException", .type "object"] "ValueError.__new__" = true
  kp : PySem.W.keepIn K (.ref C) = true
  ty : PySem.W.typeIn K (.ref C) = some (.type "type")
  xc : XcC K C
structure FErr (K : PySem.W.Frag) (mg : Str → Option Value) (n qual f : Str) (st : Stmt) where
  C : Addr
  mg : mg n = some (.ref C)
  xc : XcC K C
  oex : OexC K C
  fI : Addr
  fd : FuncData
  iC : PySem.W.findIn K (.ref C) "__init__" = some (some (.ref fI))
  tI : PySem.W.typeIn K (.ref fI) = some (.type "function")
  fn : Fun K "__init__" qual st fI fd
  bd : Binds K fd ["self", f] []
  no : PySem.W.findIn K (.ref C) f = some none
structure NErr (K : PySem.W.Frag) (mg : Str → Option Value) (n : Str) where
  C : Addr
  mg : mg n = some (.ref C)
theorem ns_nil {mg : Str → Option Value} {Pp : Str → Addr → Prop} : ∀ m ∈ ([] : List Str), ∀ D, mg m = some (.ref D) → Pp m D := fun m h => absurd h List.not_mem_nil
theorem ns_cons {mg : Str → Option Value} {Pp : Str → Addr → Prop} {n : Str} {ns : List Str} {C : Addr} (h : mg n = some (.ref C)) (p : Pp n C) (r : ∀ m ∈ ns, ∀ D, mg m = some (.ref D) → Pp m D) : ∀ m ∈ n :: ns, ∀ D, mg m = some (.ref D) → Pp m D := fun m hm D e => by
  rcases List.mem_cons.mp hm with rfl | hm
  · rw [h] at e
    cases e
    exact p
  · exact r m hm D e
theorem kany_nil {K : PySem.W.Frag} {t : Value} : PySem.W.kitAny K t (([] : List Addr).map Value.ref) = some false := rfl
theorem kany_f {K : PySem.W.Frag} {t : Value} {D : Addr} {Ds : List Addr} {b : Bool} (h : PySem.W.kitOne K t (.ref D) = some false) (r : PySem.W.kitAny K t (Ds.map Value.ref) = some b) : PySem.W.kitAny K t ((D :: Ds).map Value.ref) = some b := by
  rw [List.map_cons]
  unfold PySem.W.kitAny
  rw [h]
  exact r
theorem kany_t {K : PySem.W.Frag} {t : Value} {D : Addr} {Ds : List Addr} (h : PySem.W.kitOne K t (.ref D) = some true) : PySem.W.kitAny K t ((D :: Ds).map Value.ref) = some true := by
  rw [List.map_cons]
  unfold PySem.W.kitAny
  rw [h]
/-- the law's end, whatever else is held -/
theorem walkGE {l : PySem.W.OpenLaw} {n k : Nat} {q : Program} {loose : List Str} {XP : (Str → Option Value) → Heap → Prop} {YP : World → Heap → Prop} {d : DefRec} {K : Params → PySem.W.Frag} {x : Str} {f : Fn}
    (hn : l.most = some n) (hn2 : n ≤ sizeLine) (hdf : d.params.defaults = []) (hr : Room k callerA) (hY : ∀ (w : World) (h : Heap), YP w h → (K w.params).In h)
    (F : ∀ (w : World) (mg : Str → Option Value) (fa : Addr) (h : Heap), (K w.params).In h → h.Ns mainGlobals mg → mg d.name = some (.ref fa) → ∃ (mm : Memo) (_ : Triv mm) (fd : FuncData), (∀ (s : Shared) (u : Value), BindsTo s fd ⟨[u], []⟩ [(x, u)]) ∧
        ∀ bs : Heap, (K w.params).In bs → bs.Ns mainGlobals mg → FnG l.prog w (K w.params) mg bs CX0 k fa fd [x] (@spD mm (K w.params) 1 f))
    (hf : ∀ ns : List Int, ns.length ≤ n → ∃ as', f [.fz (ns.map PyData.int)] = some (.im (.bool true), as')) :
    PySem.W.WalkO q loose XP YP l.row.toRowW d [] (fun f vs => PySem.call f vs) := by
  refine Att.attach_call hn hdf fun w s0 s1 mg mb fa o pm cd doc a vs ns G Y ho hd hcd hmg hobj hints hlen hg => ?_
  have KX := hY w _ Y
  obtain ⟨mm, tr, fd, hb, hF⟩ := F w mg fa _ KX G.T.g hmg
  refine law_endG KX G.T.g G.T.b G.T.builtins G.T.nolimit hg hobj hints (Nat.le_trans hlen hn2) hr hF hb (fun H hO hS => ?_) fun _ _ _ z => z
  obtain ⟨as', e⟩ := hf ns hlen
  have RR : @Rel mm (K w.params) H H ([V.ref a].map some) [.fz (ns.map PyData.int)] := by
    refine @Rel.mk mm _ _ _ _ _ (Same.refl _) rfl (fun i s h => ?_) (fun i j p tt uu ds es h1 h2 => ?_) (Triv.all H H)
    · match i, h with
      | 0, h => cases h; exact ⟨a, _, rfl, hS, RpAll.ofInts ns⟩
      | i + 1, h => cases h
    · match i, h2 with
      | 0, h2 => cases h2
      | i + 1, h2 => cases h2
  refine ⟨rfl, H, _, _, as', RR, e, fun v G' H' R st rv => ?_⟩
  cases rv
  rfl
end CK
/-! a class of errors with a field, called by the field's name -/
namespace PySem
namespace CKX
open PySem PySem.Spec PyProof.Rows Builtin Builtin.ObjectAttr HandSPX
section
variable {M : Model} {A : Around} {E : Value → Shared → Prop} {h : Heap} {g : Array GenState} {d : Drawn} {t : Nat} {os : OsState}
variable {nm q : Str} {C N : Addr} {bs bm bmB : List Value} {hdct : Bool} {sn : List Str} {sub : List Value} {ab : Bool} {col : Option Bool} {dd : Option Addr} {k0 k1 k2 k3 k5 : Option Value} {B newId initId : String} {kw : List (Str × Value)}
theorem check_new_kw (F : ExcBaseFacts B newId initId bmB) (hT : ∀ X : String, bm.contains (.type X) = bmB.contains (.type X)) {rest : List Value} {Q : Unit → Shared → Prop}
    (hC : h.get? C = some (excClassObj nm q C N bs bm hdct sn sub ab col dd k0 k1 k2 k3 k5 newId)) (hq : Q () ⟨h, g, d, t, os⟩) : wpAny M A (checkBuiltinCall newId ⟨.ref C :: rest, kw⟩) Q E ⟨h, g, d, t, os⟩ := by
  have hcont : (Value.ref C :: bm).contains (.type B) = true := by rw [List.contains_cons, hT, F.hasB, Bool.or_true]
  have hstar := F.noStar
  simp only [checkBuiltinCall, F.newKind, F.newSplit, F.newRow]
  repeat (first | refine wpAny_loadPart_at hC ?_ | (refine wpAny_isSubtype_exc hC ?_; rw [hcont]) | refine wpAny_staticBase_exc hC ?_ | refine wpAny_madeBy_exc hC ?_ | simp only [bne_self_eq_false, Bool.false_eq_true, if_false] | wp_step)
  exact hq
theorem check_tc_kw {rest : List Value} {Q : Unit → Shared → Prop} (hC : h.get? C = some (excClassObj nm q C N bs bm hdct sn sub ab col dd k0 k1 k2 k3 k5 newId))
    (hq : Q () ⟨h, g, d, t, os⟩) : wpAny M A (checkBuiltinCall "type.__call__" ⟨.ref C :: rest, kw⟩) Q E ⟨h, g, d, t, os⟩ := by
  have f3 := tc_sub
  have hT : (⟨h, g, d, t, os⟩ : Shared).TypeIs (.ref C) "type" := ⟨_, hC, rfl⟩
  simp only [checkBuiltinCall, tc_kind, tc_split]
  repeat (any_goals (first | assumption | with_reducible refine wpAny_loadPart_at hC ?_ | with_reducible refine wpAny_onRaise ?_ | with_reducible refine wpAny_map ?_ | wp_step))
end
section
variable {prog : Program} {w : World} {A : Around} {E : Value → Shared → Prop} {R : Result → Shared → Prop} {h : Heap} {g : Array GenState} {d : Drawn} {t : Nat} {os : OsState}
variable {nm q : Str} {C N : Addr} {bs bm bmB : List Value} {hdct : Bool} {sn : List Str} {sub : List Value} {ab : Bool} {col : Option Bool} {dd : Option Addr} {k0 k1 k2 k3 k5 : Option Value} {B newId initId : String} {kw : List (Str × Value)}
theorem new_kw (F : ExcBaseFacts B newId initId bmB) (hT : ∀ X : String, bm.contains (.type X) = bmB.contains (.type X)) {rest : List Value}
    (hC : h.get? C = some (excClassObj nm q C N bs bm hdct sn sub ab col dd k0 k1 k2 k3 k5 newId))
    (hq : R (.ok (.ret (.ref (h.objs.size + 1)))) ⟨(h.push { cls := .type "tuple", data := .seq rest.toArray }).push
      { cls := .ref C, data := .fields #[.ref h.objs.size, .none, .none, .none, .bool false, .none] }, g, d, t, os⟩) (hrest : rest.length ≤ sizeLine) :
    codeAny (model prog w) A (.builtin newId ⟨.ref C :: rest, kw⟩) R ⟨h, g, d, t, os⟩ := by
  have hends := F.ends
  have hcB : (Value.ref C :: bm).contains (.type B) = true := by rw [List.contains_cons, hT, F.hasB, Bool.or_true]
  have hcA : (Value.ref C :: bm).contains (.type "AttributeError") = false := by rw [List.contains_cons, hT, F.noAttr]; rfl
  have hcN : (Value.ref C :: bm).contains (.type "NameError") = false := by rw [List.contains_cons, hT, F.noName]; rfl
  refine codeAny_builtinAt F.entry ?_
  unfold Builtin.«BaseException.__new__»
  refine wpAt_bind ?_
  show wpAt _ _ _ (stack >>= _) _ _ _
  refine wpAt_bind (wpAt_stack fun p below => wpAt_of_wpAny ?_)
  wp_walk
  refine wpAt_of_wpAny ?_
  rw [F.owner]
  repeat (first | with_reducible refine wpAny_madeHere_exc F.canon hC ?_ | with_reducible refine wpAny_loadPart_at hC ?_ | (with_reducible refine wpAny_isSubtype_exc hC ?_; first | rw [hcB] | rw [hcA] | rw [hcN]) | wp_step)
  show R _ _
  rw [Heap.size_push]
  exact hq
theorem type_call_kw (F : ExcBaseFacts B newId initId bmB) (hT : ∀ X : String, bm.contains (.type X) = bmB.contains (.type X)) {rest : List Value} {fI : Addr} {Q : Fin → Shared → Prop}
    (hC : h.get? C = some (excClassObj nm q C N bs bm hdct sn sub ab col dd k0 k1 k2 k3 k5 newId))
    (hi : W.Looks (model prog w) h (typeLookup (.ref C) "__init__") (some (.ref fI))) (hb : ∀ self, W.Looks (model prog w) h (bindSpecial (.ref fI) self) (.ref fI, [self])) (hrest : rest.length ≤ sizeLine)
    (hq : codeAny (model prog w) A (.call (.ref fI) ⟨.ref (h.objs.size + 1) :: rest, kw⟩)
      (fun r s' => match r with | .ok (.ret v) => v = .none ∧ Q (.done (.ret (.ref (h.objs.size + 1)))) s' | .ok _ => False | .error e => E e s')
      ⟨(h.push (W.kdv_tup rest)).push (excO C h.objs.size), g, d, t, os⟩) :
    wpAny (model prog w) A (Builtin.«type.__call__» ⟨.ref C :: rest, kw⟩) Q E ⟨h, g, d, t, os⟩ := by
  repeat (first | with_reducible refine wpAny_loadPart_at hC ?_ | with_reducible refine wpAny_madeBy_exc hC ?_ | wp_step)
  refine codeAny_call_builtin_code (Code.quiet_builtin _ F.quiet) (check_new_kw F hT hC ?_)
  refine new_kw F hT hC ?_ hrest
  show wpAny _ _ _ _ _ _
  have k : ∀ b o, h.get? b = some o → ((h.push (W.kdv_tup rest)).push (excO C h.objs.size)).get? b = some o := fun b o e => Heap.get?_push_of_some _ (Heap.get?_push_of_some _ e)
  have hC₁ := k _ _ hC
  have hget : ((h.push (W.kdv_tup rest)).push (excO C h.objs.size)).get? (h.objs.size + 1) = some (excO C h.objs.size) := by heap_get
  have hcC : (Value.ref C :: bm).contains (.ref C) = true := by simp
  have i1 := hi.keeps k
  have b1 := (hb (.ref (h.objs.size + 1))).keeps k
  unfold isInstance
  repeat (first | with_reducible refine wpAny_loadPart_at hget ?_ | (with_reducible refine wpAny_isSubtype_exc hC₁ ?_; rw [hcC]) | wp_step)
  show wpAny _ _ (typeLookup (.ref C) _) _ _ _
  refine i1.at ?_
  refine wpAny_holding (wpAny_bind (b1.at ?_))
  refine wpAny_bind (wpAny_call (codeAny_mono hq fun r s' z => ?_))
  rcases r with e | (v | _ | _ | _) <;> first | exact z | exact z.elim | skip
  obtain ⟨rfl, z⟩ := z
  first
    | exact wpAny_pure (wpAny_pure z)
    | (wp_walk; exact z)
theorem call_kw (F : ExcBaseFacts B newId initId bmB) (hT : ∀ X : String, bm.contains (.type X) = bmB.contains (.type X)) {rest : List Value} {fI : Addr}
    (hC : h.get? C = some (excClassObj nm q C N bs bm hdct sn sub ab col dd k0 k1 k2 k3 k5 newId))
    (hi : W.Looks (model prog w) h (typeLookup (.ref C) "__init__") (some (.ref fI))) (hb : ∀ self, W.Looks (model prog w) h (bindSpecial (.ref fI) self) (.ref fI, [self])) (hrest : rest.length ≤ sizeLine)
    (hq : codeAny (model prog w) (A.under (.builtin "type.__call__" ⟨.ref C :: rest, kw⟩)) (.call (.ref fI) ⟨.ref (h.objs.size + 1) :: rest, kw⟩) (W.InitBack (h.objs.size + 1) R)
      ⟨(h.push (W.kdv_tup rest)).push (excO C h.objs.size), g, d, t, os⟩) :
    codeAny (model prog w) A (.call (.ref C) ⟨rest, kw⟩) R ⟨h, g, d, t, os⟩ := by
  have f1 := tc_lookup
  have f2 := tc_bind (.ref C)
  have hTy : (⟨h, g, d, t, os⟩ : Shared).TypeIs (.ref C) "type" := ⟨_, hC, rfl⟩
  refine codeAny_of_tree ?_
  show wpAny _ _ (callAny (.ref C) _) _ _ _
  repeat (any_goals (first | assumption | with_reducible refine wpAny_loadPart_at hC ?_ | wp_step))
  refine ⟨rfl, ?_⟩
  refine codeAny_call_builtin_at (Code.quiet_builtin _ (by decide +kernel)) entry_typeCall (check_tc_kw hC (type_call_kw F hT hC hi hb hrest ?_))
  refine codeAny_mono hq fun r s' z => ?_
  rcases r with e | (v | _ | _ | _) <;> exact z
end
end CKX
end PySem
/-! exceptions as data: made, asked for their class and their field -/
namespace CK
open PySem PySem.Spec PyProof.Rows L2
variable [Memo]
/-- a new exception, at rest -/
theorem pe_ofMk {X : Cx} {e : Expr} {t : L2.St → Hp → XK → Prop} (hex : X.ex = []) (h : L2N.PMk X e t) : PE X e (fun σ H Q => t σ H fun cls d H1 => ∀ a oe, H1 a = none → L2N.Zn cls d oe → (∃ vs, oe.data = .fields vs) → Q (.ref a) (upd H1 a (EXo a oe))) := by
  refine ⟨fun pins s σ H Q I ht => wpAny_mono (h pins s σ H _ I ht) (fun u s1 hu => ?_) fun _ _ z => z⟩
  obtain ⟨a, oe, vs, sI, H', cls, d, rfl, J, k, hne, ha, hz, hd, h1, na, os, ag, r, q⟩ := hu
  have J2 : Inv X pins σ H' s1 := J.landed (B := s1.heap) (fun b o e _ => k b o e) (fun _ _ e => e) (fun b o e _ => ⟨o.slots, k b o e⟩) os ag
  refine ⟨.ref a, upd H' a (EXo a oe), invTrack J2 ha na ?_ ?_ (fun v z => by rw [hd] at z; cases z) ?_, rfl, q a oe na hz ⟨vs, hd⟩⟩
  · match q : X.s_0.heap.get? a with
    | none => rfl
    | some o =>
      obtain ⟨u, z⟩ := J.base.there a o q (by rw [hex]; exact List.not_mem_nil)
      rw [hne] at z; cases z
  · rintro rfl
    obtain ⟨m, ⟨o, _, _, e, _⟩, _⟩ := J.loc
    rw [hne] at e; cases e
  · rintro p m rfl
    have := (J.pin p m).1
    rw [hne] at this; cases this
/-- a new shared object, of any kind -/
theorem Rel.newSX {K : PySem.W.Frag} {G H : Hp} {σ : SS} {δ : List Sl} (R : Rel K G H σ δ) {a : Addr} {o : HO} (h : H a = none) : Rel K (upd G a o) (upd H a o) σ δ ∧ Same G (upd G a o) := by
  have hg := gfree R.sub h
  have sg : Same G (upd G a o) := same_upd_new hg
  have gn : Gn G H (upd G a o) := fun b φ hb e => by rw [upd_ne (ne_of_none hb h)]; exact e
  refine ⟨⟨fun b u e => ?_, R.len, fun i s e => (R.slot i s e).same sg (fun p t ws ds _ h1 h2 _ => ?_) (mSt sg gn (stay_new h)), R.inj, jG (jN R.inv h) sg⟩, sg⟩
  · by_cases hb : b = a
    · subst hb; rw [upd_same] at e; cases e; exact upd_same
    · rw [upd_ne hb] at e ⊢; exact R.sub _ _ e
  · have hp : p ≠ a := fun z => h1.not (z ▸ h)
    exact ⟨h1.upd hp, by rw [upd_ne hp]; exact h2⟩
/-- what an exception is as data -/
def exP (n : Str) : PyData := .dict [(.none, .str n)]
def exF (n f : Str) (d : PyData) : PyData := .dict [(.none, .str n), (.none, .tuple [.str f, d])]
def nmE : PyData → Option Str
  | .dict ((.none, .str n) :: _) => some n
  | _ => none
def fdE (f : Str) : PyData → Option PyData
  | .dict [(.none, .str _), (.none, .tuple [.str g, d])] => if g = f then some d else none
  | _ => none
def dExN (n : Str) (F : Ex) : Ex := fun δ => (F δ).bind fun y => some (.im (exP n), y.2)
def dExF (n f : Str) (F : Ex) : Ex := fun δ => (F δ).bind fun y => y.1.sh.bind fun d => some (.im (exF n f d), y.2)
def dIsE (Ns t : List Str) (F : Ex) : Ex := fun δ => (F δ).bind fun y => y.1.sh.bind fun d => (nmE d).bind fun n => if Ns.contains n = true then some (.im (.bool (t.contains n)), y.2) else none
def dFldE (Ns : List Str) (f : Str) (F : Ex) : Ex := fun δ => (F δ).bind fun y => y.1.sh.bind fun d => (nmE d).bind fun n => if Ns.contains n = true then (fdE f d).bind fun x => some (.im x, y.2) else none
section
variable {K : PySem.W.Frag} {G H : Hp} {v : V} {d x : PyData} {n f : Str}
theorem rp_exn (h : Rp K G v d) (e : nmE d = some n) (sub : Same G H) : ∃ (a C : Addr) (oe : Obj) (dd : Option Addr), v = .ref a ∧ PySem.W.nsIn K mainGlobals n = some (some (.ref C)) ∧ KpC H a C oe dd := by
  cases h with
  | exn h1 h2 h3 h4 => cases e; exact ⟨_, _, _, _, rfl, h1, sub _ _ h2, h3, h4, .inl rfl⟩
  | exf h1 h2 h3 h4 h5 h6 => cases e; exact ⟨_, _, _, _, rfl, h1, sub _ _ h2, h3, h4, .inr ⟨_, _, rfl, sub _ _ h5⟩⟩
  | @dic a ks xs ds h1 h2 =>
    cases ks with
    | nil => cases e
    | cons k ks =>
      cases ds with
      | nil => cases e
      | cons d ds =>
        cases k with
        | inl i => cases e
        | inr i => cases e
  | _ => cases e
theorem rp_fdE (h : Rp K G v d) (e : fdE f d = some x) (sub : Same G H) : ∃ (a C dd : Addr) (oe : Obj) (n : Str) (w : V), v = .ref a ∧ nmE d = some n ∧ PySem.W.nsIn K mainGlobals n = some (some (.ref C)) ∧ H a = some (EXo a oe) ∧ L2N.Zn (.ref C) (some dd) oe ∧ (∃ vs, oe.data = .fields vs) ∧ H dd = some (.xd [(f, w)]) ∧ Rp K G w x := by
  cases h with
  | exn h1 h2 h3 h4 => cases e
  | exf h1 h2 h3 h4 h5 h6 =>
    obtain ⟨hg, e9⟩ := of_ite e
    subst hg
    cases e9
    exact ⟨_, _, _, _, _, _, rfl, rfl, h1, sub _ _ h2, h3, h4, sub _ _ h5, h6⟩
  | @dic a ks xs ds h1 h2 =>
    cases ks with
    | nil => cases e
    | cons k ks =>
      cases ds with
      | nil => cases e
      | cons d ds =>
        cases k with
        | inl i => cases e
        | inr i => cases e
  | _ => cases e
end
section
variable {X : Cx} {n f A : Str} {p pos p2 : Pos} {e : Expr} {F : Ex} {Ns t : List Str}
theorem de_exN {bmB : List Value} {B newId initId : String} {C : Addr} (hex : X.ex = []) (Fb : ExcBaseFacts B newId initId bmB) (q : PySem.W.excIn X.K C bmB newId = true) (gC : X.mg n = some (.ref C)) (hn : PySem.W.nsIn X.K mainGlobals n = some (some (.ref C))) (kC : PySem.W.keepIn X.K (.ref C) = true)
    (r : Raises X (.ref C)) (hg : Gl X n) (he : DE X e F) (hs : starEach [e] X.env = (false, eval e X.env) :: starEach [] X.env := by rfl) (hdb : (n == ("__debug__" : Str)) = false := by decide) :
    DE X (.Call (.Name n p) [e] [] pos) (dExN n F) :=
  PE.by (pe_ofMk hex (pmk1N Fb q gC kC r hg he hs hdb)) fun σ H Q h => by
    obtain ⟨G, δ, r, δ', R, e, q⟩ := h
    obtain ⟨⟨y, δ1⟩, e1, e⟩ := bind_some_of e
    cases e
    refine tD_run R e1 fun v G1 H1 R1 st1 rv a oe na hz hf => ?_
    obtain ⟨R4, sg⟩ := R1.newSX (o := EXo a oe) na
    exact q (.ref a) _ _ R4 ((st1.trans (Stp.new (o := EXo a oe) na)).share (o := EXo a oe) (st1.dom a na) (gfree R1.sub na)) (.exn hn upd_same hz hf)
theorem de_exF {k : Nat} (hex : X.ex = []) (T : ErrF X.K X.mg X.base X.prog X.w k n f) (hn : ∀ C, X.mg n = some (.ref C) → PySem.W.nsIn X.K mainGlobals n = some (some (.ref C))) (hr : Room (k + 1) X.A) (hg : Gl X n) (he : DE X e F)
    (hdb : (n == ("__debug__" : Str)) = false := by decide) (hs : starEach (e :: []) X.env = (false, eval e X.env) :: starEach [] X.env := by rfl) (hpl : (backTo pos (starEach [] X.env)).any (·.1) = false := by rfl) :
    DE X (.Call (.Name n p) [e] [] pos) (dExF n f F) := by
  obtain ⟨C, fI, fd, gC, hC, iC, tI, F1, hb, hno⟩ := T.ex
  refine PE.by (pe_ofMk hex (pmkF hC iC tI F1 hr hb hg gC (pa_cons he pa_nil hs) hdb hs hpl)) fun σ H Q h => ?_
  obtain ⟨G, δ, r, δ', R, h, q⟩ := h
  obtain ⟨⟨y, δ1⟩, e1, h⟩ := bind_some_of h
  obtain ⟨d, e2, h⟩ := bind_some_of h
  cases h
  refine tD_run R e1 fun v G1 H1 R1 st1 rv => ?_
  refine ⟨by simp, fun a ha => ⟨a, v, C, rfl, hC, hno, upd_same, fun dx h1 h2 => ⟨rfl, dx, [(f, v)], upd_same, by rw [upd_ne h2, upd_same], ?_, ?_⟩⟩⟩
  · rw [upd_ne h2] at h1; exact h1
  · have hdx : H1 dx = none := by rw [upd_ne h2] at h1; exact h1
    have eH : upd (del (upd (upd (upd H1 a (exo a C none)) dx (exd dx [(f, v)])) a (exo a C (some dx))) a) dx (.xd [(f, v)]) = upd H1 dx (.xd [(f, v)]) := by
      funext b
      by_cases hb1 : b = dx
      · rw [hb1, upd_same, upd_same]
      · rw [upd_ne hb1, upd_ne hb1]
        by_cases hb2 : b = a
        · rw [hb2, del_same, ha]
        · rw [del_ne hb2, upd_ne hb2, upd_ne hb1, upd_ne hb2]
    rw [eH]
    intro a2 oe na hz hf
    obtain ⟨G2, R2, st2, sg2, rp⟩ := rv.shared R1 st1 e2
    obtain ⟨R3, sg3⟩ := R2.newS (o := .xd [(f, v)]) hdx
    have st3 := (st2.trans (Stp.new (G := G2) (o := .xd [(f, v)]) hdx)).share (o := .xd [(f, v)]) (st2.dom dx hdx) (gfree R2.sub hdx)
    obtain ⟨R4, sg4⟩ := R3.newSX (o := EXo a2 oe) na
    have st4 := (st3.trans (Stp.new (o := EXo a2 oe) na)).share (o := EXo a2 oe) (st3.dom a2 na) (gfree R3.sub na)
    exact q (.ref a2) _ _ R4 st4 (.exf (hn C gC) upd_same hz hf (sg4 _ _ upd_same) ((rp.same sg3).same sg4))
/-- isinstance(e, A) -/
theorem de_isE (G : XgC X.K) (hx : ∀ n ∈ Ns, ∀ C, PySem.W.nsIn X.K mainGlobals n = some (some (.ref C)) → XcC X.K C) {c : V} {cv : Value} (hcv : ∀ u, RelV c u → u = cv) (hA : PE X (.Name A p2) (tC c))
    (hk : ∀ n ∈ Ns, ∀ C, PySem.W.nsIn X.K mainGlobals n = some (some (.ref C)) → PySem.W.kitOne X.K (.ref C) cv = some (t.contains n)) (hg : Gl X "isinstance") (hm : X.mg "isinstance" = none) (he : DE X e F)
    (hs : starEach [e, .Name A p2] X.env = (false, eval e X.env) :: starEach [.Name A p2] X.env := by rfl) (hs2 : starEach [.Name A p2] X.env = (false, eval (.Name A p2) X.env) :: starEach [] X.env := by rfl)
    (hpl : (backTo pos (starEach [.Name A p2] X.env)).any (·.1) = false := by rfl) : DE X (.Call (.Name "isinstance" p) [e, .Name A p2] [] pos) (dIsE Ns t F) :=
  PE.by (pe_callB (call_isX (cv := cv) G) hg hm (by decide +kernel) (pa_cons he (pa_cons hA pa_nil hs2) hs) (he := hs) (hpl := hpl)) fun σ H Q h => by
    obtain ⟨G1, δ, r, δ', R, e, q⟩ := h
    obtain ⟨⟨y, δ1⟩, e0, e⟩ := bind_some_of e
    obtain ⟨d, e1, e⟩ := bind_some_of e
    obtain ⟨n, e2, e⟩ := bind_some_of e
    obtain ⟨hn, e⟩ := of_ite e
    cases e
    refine tD_run R e0 fun v G2 H2 R2 st2 rv => ?_
    obtain ⟨G3, R3, st3, _, rp⟩ := rv.shared R2 st2 e1
    obtain ⟨a, C, oe, dd, rfl, k3, k4⟩ := rp_exn rp e2 R3.sub
    have hn : n ∈ Ns := by rw [List.contains_eq_mem] at hn; exact of_decide_eq_true hn
    exact ⟨a, C, oe, dd, c, _, rfl, hcv, k4, hx n hn C k3, hk n hn C k3, q (.bl _) _ _ R3 st3 (.bl _)⟩
theorem de_fldE (hx : ∀ n ∈ Ns, ∀ C, PySem.W.nsIn X.K mainGlobals n = some (some (.ref C)) → XcC X.K C ∧ PySem.W.findIn X.K (.ref C) f = some none) (he : DE X e F)
    (hb : attributeBase e f X.env (eval e X.env) = eval e X.env := by rfl) : DE X (.Attribute e f pos) (dFldE Ns f F) := by
  refine ⟨fun pins s σ H Q I h => ?_⟩
  obtain ⟨G1, δ, r, δ', R, e, q⟩ := h
  obtain ⟨⟨y, δ1⟩, e0, e⟩ := bind_some_of e
  obtain ⟨d, e1, e⟩ := bind_some_of e
  obtain ⟨n, e2, e⟩ := bind_some_of e
  obtain ⟨hn, e⟩ := (show Ns.contains n = true ∧ ((fdE f d).bind fun x => some (Sl.im x, δ1)) = some (r, δ') by
    by_cases w : Ns.contains n = true
    · simp only [if_pos w] at e; exact ⟨w, e⟩
    · simp only [if_neg w] at e; cases e)
  obtain ⟨x, e3, e⟩ := bind_some_of e
  cases e
  have hn : n ∈ Ns := by rw [List.contains_eq_mem] at hn; exact of_decide_eq_true hn
  refine attr_of hb (thn (he.run pins s σ H (fun v H1 => ∃ G3, Rel X.K G3 H1 σ δ' ∧ Stp σ δ G1 H σ δ' G3 H1 ∧ Rp X.K G3 v d) I (tD_run R e0 fun v G2 H2 R2 st2 rv => ?_)) fun u s1 hh => ?_)
  · obtain ⟨G3, R3, st3, _, rp⟩ := rv.shared R2 st2 e1
    exact ⟨G3, R3, st3, rp⟩
  · obtain ⟨w, H1, I1, rw_, G3, R3, st3, rp⟩ := hh
    obtain ⟨a, C, dd, oe, n2, v, rfl, e4, k1, k2, k3, k4, k5, k6⟩ := rp_fdE rp e3 R3.sub
    rw [e2] at e4
    cases e4
    obtain rfl : u = Value.ref a := rw_
    obtain ⟨T, hno⟩ := hx n hn C k1
    obtain ⟨mA, hns, hr⟩ : ObjOk X.prog X.w H1 s1.heap dd (.xd [(f, v)]) := I1.hok dd _ k5
    obtain ⟨od, ho, hl⟩ := lookIn_ns hns
    have l : List.lookup f [(f, v)] = some v := by simp [List.lookup]
    obtain ⟨u, hu, ru⟩ := RelO.some_of (v := v) (o := mA f) (by rw [← l]; exact hr f)
    obtain ⟨vs, hv⟩ := k4
    have J : PySem.W.InstAt s1.heap a oe C (some od) := ⟨exX_at I1.hok k2, k3.1, by unfold PySem.W.notCls; rw [hv] <;> rfl, by rw [k3.2.1]; exact ho⟩
    exact HandSPX.exc_get I1.kIn J T.ga T.gg T.ex (PySem.W.findObj_own T.hd hno rfl (by rw [hl, hu])) (handed_of ru) ⟨v, H1, I1.tok _, ru, q v _ _ R3 st3 k6⟩
end
end CK
/-! a class of errors with a field, called by the field's name -/
namespace CK
open PySem PySem.Spec PyProof.Rows L2
theorem pmkK {X : Cx} {x : Str} {C fI : Addr} {k : Nat} {fd : FuncData} {ps ks : List Str} {sp : Sp} {kws : List Keyword} {tk : TA} {p pos : Pos} (T : OexC X.K C) (iC : PySem.W.findIn X.K (.ref C) "__init__" = some (some (.ref fI))) (tI : PySem.W.typeIn X.K (.ref fI) = some (.type "function"))
    (F1 : FnOk X.prog X.w X.K X.mg X.base CX0 k fI fd ps sp) (hr : Room (k + 1) X.A) (hb : KwM X.K fd ps ks) (hg : Gl X x) (hm : X.mg x = some (.ref C)) (hkw : PK X kws tk)
    (hall : (backToKw pos (keywordEach kws X.env)).all (·.1.isSome) = true := by rfl) (hks : (backToKw pos (keywordEach kws X.env)).filterMap (·.1) = ks := by rfl) (hdb : (x == ("__debug__" : Str)) = false := by decide)
    (hpl : ((backTo pos (starEach [] X.env)).any (·.1) || (backToKw pos (keywordEach kws X.env)).any (·.1.isNone)) = false := by rfl) :
    L2N.PMk X (.Call (.Name x p) [] kws pos) (tMkO C sp [] (fun σ H Q => tk σ H fun zs H1 => zs.length = ks.length ∧ Q zs H1)) := fun pins s σ H Q I h => by
  obtain ⟨_, _, _, _, bm, _, _, _, _, _, _, _, _, _, _, hC, hbm⟩ := T.cls
  refine wpAny_Call_Name_kw (ld_glob I hg hm ?_ hdb)
  refine PySem.W.callWith_KW0 (h₀ := X.base) I.ok.mod.kin T.kC hall (thn (hkw.run pos pins s σ H _ I h) fun us s1 hh => ?_) hpl
  obtain ⟨vs, H1, I1, r1, zl, _, q1⟩ := hh
  refine ⟨I1.kIn, ?_⟩
  rw [hks]
  show wpAny _ _ (call (.ref C) [] (ks.zip us)) _ _ _
  obtain ⟨hp, g, dr, t9, os⟩ := s1
  obtain ⟨n, hnn⟩ : ∃ n, n = hp.objs.size + 1 := ⟨_, rfl⟩
  have le : hp.objs.size ≤ n := by omega
  have hq := q1 n (I1.hok.fresh le)
  rw [List.append_nil] at hq
  obtain ⟨hx, hhx⟩ : ∃ hx, hx = (hp.push (PySem.W.kdv_tup [])).push (PySem.HandSPX.excO C hp.objs.size) := ⟨_, rfl⟩
  have up : ∀ b o, hp.get? b = some o → hx.get? b = some o := fun b o w => by rw [hhx]; exact Heap.get?_push_of_some _ (Heap.get?_push_of_some _ w)
  have at_n : hx.get? n = some (PySem.HandSPX.excO C hp.objs.size) := by rw [hhx, hnn]; heap_get
  have I2 : Inv X pins σ (upd H1 n (exo n C none)) ⟨hx, g, dr, t9, os⟩ := I1.laid (t' := t9) (a := n) (o := exo n C none) (h' := hx) up le (exo_ok at_n)
  have r2 : Vals (V.ref n :: vs) (Value.ref n :: us) := .cons rfl r1
  have wl : us.length = ks.length := by rw [← r1.length]; exact zl
  have hbs := hb.to ⟨hx, g, dr, t9, os⟩ (Value.ref n) us I2.kIn wl
  subst hnn hhx
  refine wpAny_call (PySem.CKX.call_kw F.excBase_ValueError (fun Y => PySem.HandSPX.refsVE_contains Y bm hbm) (I1.kIn _ _ hC) (PySem.W.looks_findIn I1.kIn iC) (fun self => PySem.W.bind_fn I1.kIn self tI) (by simp)
    (codeAny_mono (F1.run _ X.stack _ _ ⟨[Value.ref (hp.objs.size + 1)], ks.zip us⟩ _ _ _ (fun _ _ _ => False) (hr.make C [] (ks.zip us)) (I2.env0.make C [] (ks.zip us)) hbs r2 hq) fun r s' hq' => ?_))
  match r, hq' with
  | .error er, w => exact pass0 pins σ _ _ er s' I2 w
  | .ok (.ret u), w =>
    obtain ⟨_, H2, os2, bare2, un2, hok2, rv, rfl, d, fs, ea, ed, hd1, q2⟩ := w
    obtain ⟨h2, g2, d2, t2, os'⟩ := s'
    obtain ⟨t0, G, J, kG, ge, hoe, na⟩ := mk_end0 (d2 := d2) (t2 := t2) I1 le up un2 hok2 os2 bare2 ea ed hd1
    exact ⟨rv, _, _, _, ⟨G, g2, d2, t2, os'⟩, _, .ref C, some d, rfl, J, kG, ge, hoe, ⟨rfl, rfl, fun vs z => by cases z; rfl⟩, rfl, rfl, na, rfl, bare2, raises_own T.exC T.tyC, q2⟩
/-- a class of errors with a field, by its place and by its name -/
structure ErrFK (K : PySem.W.Frag) (mg : Str → Option Value) (base : Heap) (P : Program) (w : World) (k : Nat) (n f : Str) : Prop where
  ex : ∃ (C fI : Addr) (fd : FuncData), mg n = some (.ref C) ∧ OexC K C ∧ PySem.W.findIn K (.ref C) "__init__" = some (some (.ref fI)) ∧ PySem.W.typeIn K (.ref fI) = some (.type "function") ∧
    FnOk P w K mg base CX0 k fI fd ["self", f] (spInit K f) ∧ Binds K fd ["self", f] [] ∧ PySem.W.findIn K (.ref C) f = some none ∧ KwM K fd ["self", f] [f]
theorem ErrFK.f {K : PySem.W.Frag} {mg : Str → Option Value} {base : Heap} {P : Program} {w : World} {k : Nat} {n f : Str} (h : ErrFK K mg base P w k n f) : ErrF K mg base P w k n f := by
  obtain ⟨C, fI, fd, gC, hC, iC, tI, F1, hb, hno, hk⟩ := h.ex
  exact ⟨C, fI, fd, gC, hC, iC, tI, F1, hb, hno⟩
variable [Memo]
section
variable {X : Cx} {n f A : Str} {p pos p2 : Pos} {e : Expr} {F : Ex} {Ns t : List Str}
/-- the error by its field's name -/
theorem de_exK {k : Nat} {kpos : Pos} (hex : X.ex = []) (T : ErrFK X.K X.mg X.base X.prog X.w k n f)
    (hn : ∀ C, X.mg n = some (.ref C) → PySem.W.nsIn X.K mainGlobals n = some (some (.ref C))) (hr : Room (k + 1) X.A) (hg : Gl X n) (he : DE X e F)
    (hall : (backToKw pos (keywordEach [⟨some f, e, kpos⟩] X.env)).all (·.1.isSome) = true := by rfl) (hks : (backToKw pos (keywordEach [⟨some f, e, kpos⟩] X.env)).filterMap (·.1) = [f] := by rfl) (hdb : (n == ("__debug__" : Str)) = false := by decide)
    (hpl : ((backTo pos (starEach [] X.env)).any (·.1) || (backToKw pos (keywordEach [⟨some f, e, kpos⟩] X.env)).any (·.1.isNone)) = false := by rfl) :
    DE X (.Call (.Name n p) [] [⟨some f, e, kpos⟩] pos) (dExF n f F) := by
  obtain ⟨C, fI, fd, gC, hC, iC, tI, F1, hb, hno, hkw⟩ := T.ex
  refine PE.by (pe_ofMk hex (pmkK hC iC tI F1 hr hkw hg gC (pk_cons he pk_nil) hall hks hdb hpl)) fun σ H Q h => ?_
  obtain ⟨G, δ, r, δ', R, h, q⟩ := h
  obtain ⟨⟨y, δ1⟩, e1, h⟩ := bind_some_of h
  obtain ⟨d, e2, h⟩ := bind_some_of h
  cases h
  refine tD_run R e1 fun v G1 H1 R1 st1 rv => ?_
  refine ⟨rfl, by simp, fun a ha => ⟨a, v, C, rfl, hC, hno, upd_same, fun dx h1 h2 => ⟨rfl, dx, [(f, v)], upd_same, by rw [upd_ne h2, upd_same], ?_, ?_⟩⟩⟩
  · rw [upd_ne h2] at h1; exact h1
  · have hdx : H1 dx = none := by rw [upd_ne h2] at h1; exact h1
    have eH : upd (del (upd (upd (upd H1 a (exo a C none)) dx (exd dx [(f, v)])) a (exo a C (some dx))) a) dx (.xd [(f, v)]) = upd H1 dx (.xd [(f, v)]) := by
      funext b
      by_cases hb1 : b = dx
      · rw [hb1, upd_same, upd_same]
      · rw [upd_ne hb1, upd_ne hb1]
        by_cases hb2 : b = a
        · rw [hb2, del_same, ha]
        · rw [del_ne hb2, upd_ne hb2, upd_ne hb1, upd_ne hb2]
    rw [eH]
    intro a2 oe na hz hf
    obtain ⟨G2, R2, st2, sg2, rp⟩ := rv.shared R1 st1 e2
    obtain ⟨R3, sg3⟩ := R2.newS (o := .xd [(f, v)]) hdx
    have st3 := (st2.trans (Stp.new (G := G2) (o := .xd [(f, v)]) hdx)).share (o := .xd [(f, v)]) (st2.dom dx hdx) (gfree R2.sub hdx)
    obtain ⟨R4, sg4⟩ := R3.newSX (o := EXo a2 oe) na
    have st4 := (st3.trans (Stp.new (o := EXo a2 oe) na)).share (o := EXo a2 oe) (st3.dom a2 na) (gfree R3.sub na)
    exact q (.ref a2) _ _ R4 st4 (.exf (hn C gC) upd_same hz hf (sg4 _ _ upd_same) ((rp.same sg3).same sg4))
end
end CK
/-! objects that remember: dicts by nested keys, told by what their entries are -/
namespace CK
open PySem PySem.Spec PyProof.Rows L2

/-! ### keys -/
mutual
def keyD : PyData → Option NestedKey
  | .int i => some (.num i)
  | .str x => some (.text x)
  | .none => some .none
  | .tuple ds => (keysD ds).bind fun ks => some (.tup ks)
  | .bool _ => Option.none
  | .list _ => Option.none
  | .dict _ => Option.none
def keysD : List PyData → Option (List NestedKey)
  | [] => some []
  | d :: ds => (keyD d).bind fun k => (keysD ds).bind fun ks => some (k :: ks)
end
mutual
theorem keyD_data : ∀ {d : PyData} {k : NestedKey}, keyD d = some k → d = k.data
  | .int i, k, h => by rw [keyD] at h; cases h; rfl
  | .str i, k, h => by rw [keyD] at h; cases h; rfl
  | .none, k, h => by rw [keyD] at h; cases h; rfl
  | .tuple ds, k, h => by
    rw [keyD] at h
    obtain ⟨ks, e, h⟩ := bind_some_of h
    cases h
    rw [NestedKey.data, keysD_data e]
  | .bool i, k, h => by rw [keyD] at h; cases h
  | .list i, k, h => by rw [keyD] at h; cases h
  | .dict i, k, h => by rw [keyD] at h; cases h
theorem keysD_data : ∀ {ds : List PyData} {ks : List NestedKey}, keysD ds = some ks → ds = NestedKey.datas ks
  | [], k, h => by rw [keysD] at h; cases h; rfl
  | d :: ds, k, h => by
    rw [keysD] at h
    obtain ⟨k1, e, h⟩ := bind_some_of h
    obtain ⟨ks, e2, h⟩ := bind_some_of h
    cases h
    rw [NestedKey.datas, keyD_data e, keysD_data e2]
end
section
variable {X : Cx} {pins : List (Addr × Obj)} {σ : SS} {H : Hp} {s : Shared}
mutual
theorem nis (I : Inv X pins σ H s) : ∀ {d : PyData} {v : V} {u : Value} {k : NestedKey}, Rp X.K H v d → keyD d = some k → RelV v u → NestedIs s.heap k u
  | .int i, _, _, k, h, e, r => by
    rw [keyD] at e; cases e; cases h
    obtain ⟨t, rfl⟩ := r
    exact .int i t
  | .str x, _, _, k, h, e, r => by
    rw [keyD] at e; cases e; cases h
    obtain ⟨t, rfl⟩ := r
    exact .text x t
  | .none, _, _, k, h, e, r => by
    rw [keyD] at e; cases e; cases h; cases r
    exact .none
  | .tuple ds, _, _, k, h, e, r => by
    rw [keyD] at e
    obtain ⟨ks, e1, e⟩ := bind_some_of e
    cases e
    cases h with
    | tup hs ha =>
      cases r
      obtain ⟨its, rv, ⟨o, ho, hc, n, hd⟩, _⟩ := I.tuple hs
      exact .tup ho hc hd (by simpa using nisAll I ha e1 rv)
  | .bool i, _, _, k, h, e, r => by rw [keyD] at e; cases e
  | .list i, _, _, k, h, e, r => by rw [keyD] at e; cases e
  | .dict i, _, _, k, h, e, r => by rw [keyD] at e; cases e
theorem nisAll (I : Inv X pins σ H s) : ∀ {ds : List PyData} {vs : List V} {us : List Value} {ks : List NestedKey}, RpAll X.K H vs ds → keysD ds = some ks → Vals vs us → NestedAll s.heap ks us
  | [], _, _, k, h, e, r => by rw [keysD] at e; cases e; cases h; cases r; exact .nil
  | d :: ds, _, _, k, h, e, r => by
    rw [keysD] at e
    obtain ⟨k1, e1, e⟩ := bind_some_of e
    obtain ⟨ks, e2, e⟩ := bind_some_of e
    cases e
    cases h with
    | cons a b =>
      cases r with
      | cons ra rb => exact .cons (nis I a e1 ra) (nisAll I b e2 rb)
end
end

/-! ### a dict by its entries -/
abbrev MEs := List (NestedKey × Addr × V)
abbrev EPr (p : NestedKey × Addr × V) (q : NestedKey × Addr × Value) : Prop := p.1 = q.1 ∧ p.2.1 = q.2.1 ∧ RelV p.2.2 q.2.2
def Lab (P : Program) (w : World) (a : Addr) (es : MEs) : Heap → Prop := fun h => (a == sysModules) = false ∧ ∃ o ds ep xs, h.get? a = some o ∧ o.ExactDict ∧ o.data = .dict ds ep ∧ ds.toList = xs.map (entryOfKey (nestedKind P w)) ∧ (xs.map (·.1)).Nodup ∧ Paired EPr es xs
theorem lab_ok {P : Program} {w : World} {H : Hp} {h : Heap} {a : Addr} {es : MEs} (l : Lab P w a es h) : ObjOk P w H h a (.ext (Lab P w a es)) := by
  refine ⟨l, ?_, ?_⟩
  · obtain ⟨_, o, _, _, _, e, _⟩ := l; exact ⟨o, e⟩
  · rintro h1 h2 ⟨z, o, ds, ep, xs, e, r⟩ k
    exact ⟨z, o, ds, ep, xs, k _ e, r⟩
/-- the keys are what they are said to be -/
def KsOk (K : PySem.W.Frag) (G : Hp) (es : MEs) : Prop := ∀ e ∈ es, ∃ kd, keyD kd = some e.1 ∧ e.1.depth ≤ 8 ∧ Rp K G (.ref e.2.1) kd
theorem paired_keys : ∀ {es : MEs} {xs : List (NestedKey × Addr × Value)}, Paired EPr es xs → es.map (·.1) = xs.map (·.1)
  | _, _, .nil => rfl
  | _, _, .cons h t => by rw [List.map_cons, List.map_cons, h.1, paired_keys t]
theorem paired_mem {α β : Type} {F : α → β → Prop} : ∀ {l : List α} {m : List β}, Paired F l m → ∀ b ∈ m, ∃ a ∈ l, F a b
  | _, _, .nil, b, h => nomatch h
  | _, _, .cons r t, b, h => by
    rcases List.mem_cons.mp h with rfl | h
    · exact ⟨_, List.mem_cons_self, r⟩
    · obtain ⟨a, h1, h2⟩ := paired_mem t b h
      exact ⟨a, List.mem_cons_of_mem _ h1, h2⟩
def atE (es : MEs) (k : NestedKey) : Option V := (es.find? fun e => decide (e.1 = k)).map (·.2.2)
def putE (es : MEs) (k : NestedKey) (b : Addr) (y : V) : MEs := if (atE es k).isSome = true then es.map fun e => if e.1 = k then (e.1, e.2.1, y) else e else es ++ [(k, b, y)]
theorem atE_rel {es : MEs} {xs : List (NestedKey × Addr × Value)} (r : Paired EPr es xs) (k : NestedKey) : RelO (atE es k) ((atKey xs k).map (·.2)) := by
  unfold atE atKey
  induction r with
  | nil => exact True.intro
  | @cons p q ps qs h t ih =>
    obtain ⟨h1, h2, h3⟩ := h
    rw [List.find?_cons, List.find?_cons, ← h1]
    cases hd : decide (p.1 = k) with
    | true => exact h3
    | false => exact ih
theorem putE_rel {es : MEs} {xs : List (NestedKey × Addr × Value)} (r : Paired EPr es xs) (k : NestedKey) (b : Addr) {y : V} {u : Value} (ry : RelV y u) : Paired EPr (putE es k b y) (storedH xs k b u) := by
  have e : (atE es k).isSome = (atKey xs k).isSome := by rw [(atE_rel r k).isSome_eq, Option.isSome_map]
  unfold putE storedH
  rw [e]
  by_cases q : (atKey xs k).isSome = true
  · rw [if_pos q, if_pos q]
    clear e q
    induction r with
    | nil => exact .nil
    | @cons p q ps qs h t ih =>
      rw [List.map_cons, List.map_cons]
      refine .cons ?_ ih
      obtain ⟨h1, h2, h3⟩ := h
      unfold putAt
      rw [← h1]
      by_cases z : p.1 = k
      · rw [if_pos z, if_pos z]; exact ⟨rfl, h2, ry⟩
      · rw [if_neg z, if_neg z]; exact ⟨h1, h2, h3⟩
  · rw [if_neg q, if_neg q]
    exact Paired.snoc r ⟨rfl, rfl, ry⟩
theorem atE_mem {es : MEs} {k : NestedKey} {v : V} (h : atE es k = some v) : ∃ a, (k, a, v) ∈ es := by
  unfold atE at h
  obtain ⟨e, e1, e2⟩ := Option.map_eq_some_iff.mp h
  have e3 := List.find?_some e1
  have := of_decide_eq_true e3
  exact ⟨e.2.1, by rw [← this, ← e2]; exact List.mem_of_find?_eq_some e1⟩
theorem putE_mem {es : MEs} {k : NestedKey} {b : Addr} {y : V} {e : NestedKey × Addr × V} (h : e ∈ putE es k b y) : e ∈ es ∨ (e.1 = k ∧ e.2.2 = y ∧ (e.2.1 = b ∨ ∃ e' ∈ es, e'.1 = k ∧ e'.2.1 = e.2.1)) := by
  unfold putE at h
  split at h
  · obtain ⟨e', h1, h2⟩ := List.mem_map.mp h
    split at h2
    · rename_i hk
      subst h2
      exact .inr ⟨hk, rfl, .inr ⟨e', h1, hk, rfl⟩⟩
    · subst h2; exact .inl h1
  · rcases List.mem_append.mp h with h | h
    · exact .inl h
    · rw [List.mem_singleton] at h; subst h; exact .inr ⟨rfl, rfl, .inl rfl⟩
theorem nodup_len {α : Type} [DecidableEq α] : ∀ {l m : List α}, l.Nodup → (∀ x ∈ l, x ∈ m) → l.length ≤ m.length
  | [], m, _, _ => Nat.zero_le _
  | a :: l, m, nd, h => by
    obtain ⟨n1, n2⟩ := List.nodup_cons.mp nd
    have ha := h a List.mem_cons_self
    have := nodup_len (l := l) (m := m.erase a) n2 fun x hx => (List.mem_erase_of_ne fun z => n1 (by rw [← z]; exact hx)).mpr (h x (List.mem_cons_of_mem _ hx))
    rw [List.length_erase_of_mem ha] at this
    have : 0 < m.length := List.length_pos_of_mem ha
    rw [List.length_cons]; omega
section
variable {X : Cx} {pins : List (Addr × Obj)} {σ : SS} {H : Hp} {s : Shared} {a b : Addr} {es : MEs} {k : NestedKey} {kd : PyData}
theorem lab_at (I : Inv X pins σ H s) (l : H a = some (.ext (Lab X.prog X.w a es))) (vk : KsOk X.K H es) : (a == sysModules) = false ∧ ∃ xs, s.heap.DictOfH (nestedKind X.prog X.w) a xs ∧ Paired EPr es xs ∧ (es.map (·.1)).Nodup := by
  obtain ⟨⟨hs, o, ds, ep, xs, e1, e2, e3, e4, e5, e6⟩, _⟩ := I.hok a _ l
  refine ⟨hs, xs, ⟨o, ds, ep, e1, e2, e3, e4, fun x hx => ?_, e5⟩, e6, ?_⟩
  · obtain ⟨e, he, h1, h2, _⟩ := paired_mem e6 x hx
    obtain ⟨kd, k1, k2, k3⟩ := vk e he
    rw [← h1, ← h2]
    exact ⟨nis I k3 k1 rfl, k2⟩
  · rw [paired_keys e6]; exact e5
/-- what is asked of the dict at y, by the key x -/
def rMem (X : Cx) (f : Bool → Bool) : R2 := fun x y H Q => ∃ a b k kd es, x = .ref b ∧ y = .ref a ∧ keyD kd = some k ∧ k.depth ≤ 8 ∧ Rp X.K H (.ref b) kd ∧ H a = some (.ext (Lab X.prog X.w a es)) ∧ KsOk X.K H es ∧ Q (.bl (f (atE es k).isSome)) H
theorem op_mnin (hu : X.A.units + 64 < cLine) : OpR X (compareOp .NotIn) (rMem X (!·)) := by
  intro pins s σ H x y v u Q I rx ry h
  obtain ⟨a, b, k, kd, es, rfl, rfl, h1, h2, h3, h4, h5, q⟩ := h
  cases rx; cases ry
  obtain ⟨hs, xs, hm, hp, _⟩ := lab_at I h4 h5
  refine wpAny_notIn_heap (knd := nestedKind X.prog X.w) (by show X.A.in1.units + 8 < cLine; have : X.A.in1.units = X.A.units + 1 := rfl; omega) ⟨nis I h3 h1 rfl, h2⟩ hs hm ?_
  have e := (atE_rel hp k).isSome_eq
  rw [Option.isSome_map] at e
  rw [← e]
  exact ⟨.bl _, H, I.tok _, rfl, q⟩
/-- d[k] -/
def tMGet (X : Cx) (td ty : TE) : TE := fun σ H Q => td σ H fun x H1 => ty σ H1 fun y H2 => ∃ a b k kd es v, x = .ref a ∧ y = .ref b ∧ keyD kd = some k ∧ k.depth ≤ 8 ∧ Rp X.K H2 (.ref b) kd ∧ H2 a = some (.ext (Lab X.prog X.w a es)) ∧ KsOk X.K H2 es ∧ atE es k = some v ∧ Q v H2
theorem pe_mget {o i : Expr} {td ty : TE} {pos : Pos} (hu : X.A.units + 64 < cLine) (ho : PE X o td) (hi : PE X i ty) (hs : NoSl i) : PE X (.Subscript o i pos) (tMGet X td ty) := by
  refine ⟨fun pins s σ H Q I h => ?_⟩
  refine subD_of PySem.F.slot_dict_getitem.lookup hs (thn (ho.run pins s σ H _ I h) fun u s1 ⟨x, H1, I1, rx, q1⟩ => thn (hi.run pins s1 σ H1 _ I1 q1) fun iv s2 ⟨y, H2, I2, ry, a, b, k, kd, es, v, ex, ey, h1, h2, h3, h4, h5, h6, q2⟩ => ?_)
  subst ex; subst ey
  cases rx; cases ry
  obtain ⟨hs, xs, hm, hp, _⟩ := lab_at I2 h4 h5
  refine ⟨hm.typeIs, ?_⟩
  have e := atE_rel hp k
  rw [h6] at e
  obtain ⟨w', hw, rw'⟩ := RelO.some_of (v := v) (o := (atKey xs k).map (·.2)) e
  obtain ⟨p, hp1, hp2⟩ := Option.map_eq_some_iff.mp hw
  refine wpAny_getItem_heap (knd := nestedKind X.prog X.w) (by show X.A.in1.units + 8 < cLine; have : X.A.in1.units = X.A.units + 1 := rfl; omega) ⟨nis I2 h3 h1 rfl, h2⟩ hm hp1 ?_
  rw [hp2]
  exact ⟨v, H2, I2.tok _, rw', q2⟩
/-- d[k] = v -/
def sMPut (X : Cx) (td ty tv : TE) : TS := fun D σ H => tv σ H fun v H1 => td σ H1 fun x H2 => ty σ H2 fun y H3 => ∃ a b k kd es, x = .ref a ∧ y = .ref b ∧ keyD kd = some k ∧ k.depth ≤ 8 ∧ Rp X.K H3 (.ref b) kd ∧ H3 a = some (.ext (Lab X.prog X.w a es)) ∧ KsOk X.K H3 es ∧
  ((es.map (·.1)).Nodup → es.length ≤ sizeLine) ∧ D.nx σ (upd H3 a (.ext (Lab X.prog X.w a (putE es k b v))))
theorem ps_mput {o i value : Expr} {td ty tv : TE} {pos pos' : Pos} (hu : X.A.units + 64 < cLine) (ho : PE X o td) (hi : PE X i ty) (hv : PE X value tv) (hs : swapsWith value (some (.Subscript o i pos')) pos.line X.env = pure false) : PS X (.Assign [.Subscript o i pos'] value pos) (sMPut X td ty tv) := by
  refine ⟨fun pins s σ H D I h => ?_⟩
  refine wpAny_Assign_Subscript (thn (hv.run pins s σ H _ I h) fun r s1 ⟨v, H1, I1, rv, q1⟩ => thn (ho.run pins s1 σ H1 _ I1 q1) fun u s2 ⟨x, H2, I2, rx, q2⟩ => thn (hi.run pins s2 σ H2 _ I2 q2) fun iv s3 ⟨y, H3, I3, ry, a, b, k, kd, es, ex, ey, h1, h2, h3, h4, h5, h6, q3⟩ => ?_) hs
  subst ex; subst ey
  cases rx; cases ry
  obtain ⟨hs, xs, hm, hp, hn⟩ := lab_at I3 h4 h5
  have hz : xs.length ≤ sizeLine := by rw [← Paired.length hp]; exact h6 hn
  refine wpAny_setItem_heap (knd := nestedKind X.prog X.w) (hsz := hz) (by show X.A.in1.units + 8 < cLine; have : X.A.in1.units = X.A.units + 1 := rfl; omega) ⟨nis I3 h3 h1 rfl, h2⟩ hm fun h' dd' hs' => ?_
  obtain ⟨q, ds, ep, hq, g2, g3, g4, _, g5⟩ := dd'
  exact ⟨σ, _, d_write I3 (by rw [h4]; exact True.intro) hs' ⟨q, hq⟩ (lab_ok ⟨hs, q, ds, ep, _, hq, g2, g3, g4, g5, putE_rel hp k b rv⟩), q3⟩
end
end CK
/-! objects that remember: the instance, what its methods do at the value level -/
namespace CK
open PySem PySem.Spec PyProof.Rows L2

abbrev PL : Str := "own_places"
/-- the attributes that hold a dict -/
def mNames : List Str := ["own_rows", "own_whole", "own_below"]
def mFs (x : Inf) (ad : Str → Addr) : List (Str × V) := [("own_places", .int x.pl), ("own_rows", .ref (ad "own_rows")), ("own_whole", .ref (ad "own_whole")), ("own_below", .ref (ad "own_below"))]
theorem mFs_at (x : Inf) (ad : Str → Addr) {f : Str} (h : f ∈ mNames) : (mFs x ad).lookup f = some (.ref (ad f)) := by
  unfold mNames at h
  simp only [List.mem_cons, List.not_mem_nil, or_false] at h
  unfold mFs
  rcases h with rfl | rfl | rfl <;> rfl
abbrev SpT := Inf → Str → PyData → Option PyData
abbrev LiT := Inf → Str → List PyData
section
variable (P : Program) (w : World) (K : PySem.W.Frag) (C : Addr) (W : Addr → Prop) (sp : SpT) (li : LiT)
def Val (G : Hp) (x : Inf) (f : Str) (es : MEs) : Prop := ∀ e ∈ es, ∃ kd d, keyD kd = some e.1 ∧ e.1.depth ≤ 8 ∧ Rp K G (.ref e.2.1) kd ∧ Rp K G e.2.2 d ∧ sp x f kd = some d ∧ kd ∈ li x f
def DicOk (G H : Hp) (x : Inf) (f : Str) (a : Addr) : Prop := ∃ es, H a = some (.ext (Lab P w a es)) ∧ G a = none ∧ Val K sp li G x f es
def MU (G H : Hp) (p : Addr) (x : Inf) : Prop := ∃ dx ad, G p = some (.ins C dx (mFs x ad)) ∧ (∀ f ∈ mNames, ∀ g ∈ mNames, ad f = ad g → f = g) ∧ (∀ f ∈ mNames, W (ad f) ∧ DicOk P w K sp li G H x f (ad f)) ∧ ∀ f ∈ mNames, (li x f).length ≤ sizeLine
theorem Val.same {G G' : Hp} {x : Inf} {f : Str} {es : MEs} (h : Val K sp li G x f es) (s : Same G G') : Val K sp li G' x f es := fun e he => by
  obtain ⟨kd, d, h1, h2, h3, h4, h5⟩ := h e he
  exact ⟨kd, d, h1, h2, h3.same s, h4.same s, h5⟩
theorem MU.mst {G G' H H' : Hp} {p : Addr} {x : Inf} (h : MU P w K C W sp li G H p x) (s : Same G G') (gn : Gn G H G') (st : ∀ a o, H a = some o → ¬ Soft C o → H' a = some o) : MU P w K C W sp li G' H' p x := by
  obtain ⟨dx, ad, h1, h2, h3, h4⟩ := h
  refine ⟨dx, ad, s _ _ h1, h2, fun f hf => ?_, h4⟩
  obtain ⟨w1, es, e1, e0, e2⟩ := h3 f hf
  exact ⟨w1, es, st _ _ e1 soft_ext, gn _ _ e1 e0, e2.same (s := s)⟩
/-- the instance: what the methods of one object may change -/
def memoU : Memo := ⟨C, fun _ _ => True, fun _ _ _ => trivial, W, MU P w K C W sp li, fun h s gn st => MU.mst P w K C W sp li h s gn st, fun h => .inl fun z => by obtain ⟨_, _, h1, _⟩ := h; rw [h1] at z; cases z⟩
instance : Triv (memoU P w K C W sp li) := ⟨fun _ _ => trivial⟩
/-- an instance of this kind -/
structure IsU (mm : Memo) : Prop where
  eq : ∀ G H p x, mm.M G H p x ↔ MU P w K mm.C mm.W sp li G H p x
theorem isU : IsU P w K sp li (memoU P w K C W sp li) := ⟨fun _ _ _ _ => Iff.rfl⟩
end

/-! ### the instance where nothing changes unseen -/
section
variable {mm : Memo} {K : PySem.W.Frag} {G G' H H' Hs : Hp} {σ σ' : SS} {δ δ' : List Sl}
theorem relN (R : @Rel mm K G H σ δ) : @Rel (noW mm) K G H σ δ := by
  cases R with
  | mk a b c d e => exact @Rel.mk (noW mm) K G H σ δ a b c d e
theorem relM (R : @Rel (noW mm) K G H σ δ) : @Rel mm K G H σ δ := by
  cases R with
  | mk a b c d e => exact @Rel.mk mm K G H σ δ a b c d e
theorem stpM (st : @Stp (noW mm) σ δ G H σ' δ' G' H') : @Stp mm σ δ G H σ' δ' G' H' := by
  cases st with
  | mk a b c d => exact @Stp.mk mm σ δ G H σ' δ' G' H' (fun x o e n => ⟨fun _ => (a x o e n).1 fun z => z.2, (a x o e n).2⟩) b c d
theorem rvM {v : V} {r : Sl} (h : @RV (noW mm) K G H Hs σ δ v r) : @RV mm K G H Hs σ δ v r := by
  cases r <;> exact h
end
section
variable [mm : Memo] {X : Cx} {P : List Nat} {p pos px apos : Pos} {x m : Str} {e : Expr} {es : List Expr} {as : List Ag} {k n : Nat} {f : Addr} {fd : FuncData} {ps : List Str} {fn : Fn}
theorem de_callS (hgd : X.A.guards = some []) (F : FnG X.prog X.w X.K X.mg X.base CX0 k f fd ps (@spD (noW mm) X.K n fn)) (hr : Room k X.A) (hg : Gl X x) (hm : X.mg x = some (.ref f)) (hk : PySem.W.keepIn X.K (.ref f) = true)
    (hb : Binds X.K fd ps []) (ha : DA X (e :: es) as) (nd : (agI as).Nodup := by decide) (hn : as.length = n := by rfl) (hdb : (x == ("__debug__" : Str)) = false := by decide)
    (he : starEach (e :: es) X.env = (false, eval e X.env) :: starEach es X.env := by rfl) (hpl : (backTo pos (starEach es X.env)).any (·.1) = false := by rfl) : DE X (.Call (.Name x p) (e :: es) [] pos) (dCall fn as) :=
  PE.by (pe_callG hgd F hr hg hm hk hb pass0 ha hdb he hpl) fun σ H Q h => by
    obtain ⟨G, δ, r, δ', R, e, q⟩ := h
    obtain ⟨⟨ps, δ1⟩, e1, e⟩ := bind_some_of e
    obtain ⟨ss, e2, e⟩ := bind_some_of e
    obtain ⟨⟨r1, ss'⟩, e3, e⟩ := bind_some_of e
    cases e
    exact ⟨G, δ, ps, δ1, R, e1, fun vs G1 H1 R1 st1 aw => @call_core (noW mm) _ _ _ _ _ _ _ _ _ _ _ _ _ _ _ nd hn (relN R1) aw e2 e3 (.inl fun _ z => z) fun v G2 H2 R2 st2 rv => q v G2 H2 (relM R2) (st1.trans (stpM st2)) ((rvM rv).ahead st1)⟩
def moS : Option Sl → Option Inf
  | some (.mo x) => some x
  | _ => none
theorem moS_at {o : Option Sl} {z : Inf} (h : moS o = some z) : o = some (.mo z) := by
  unfold moS at h
  split at h
  · cases h; rfl
  · cases h
/-- self.own_places -/
def dMPl (i : Nat) : Ex := fun δ => (moS δ[i]?).bind fun x => some (.im (.int x.pl), δ)
/-- self.m(..) -/
def dMMeth (fn : Fn) (i : Nat) (as : List Ag) : Ex := fun δ => (moS δ[i]?).bind fun _ => dCallM fn (.io i :: as) δ
end
section
variable {P : Program} {w : World} {K : PySem.W.Frag} {mg : Str → Option Value} {base : Heap}
variable [mm : Memo] {X : Cx} {sp : SpT} {li : LiT} {Pn : List Nat} {p pos px apos : Pos} {x m : Str} {e : Expr} {es : List Expr} {as : List Ag} {k n : Nat} {f : Addr} {fd : FuncData} {ps : List Str} {fn : Fn}
theorem de_mpl (i : Nat) (hU : IsU X.prog X.w X.K sp li mm) (c : Cls X.K Memo.C) (na : NoAttr X.K Memo.C PL) (hN : X.N[i]? = some x := by rfl) (hv : Vis X.env.scope x := by first | exact Or.inl rfl | exact Or.inr (Or.inl rfl) | exact Or.inr (Or.inr rfl)) (hd : (x == ("__debug__" : Str)) = false := by decide)
    (hcd : (x == ("__classdict__" : Str)) = false := by decide) (hb : attributeBase (.Name x px) PL X.env (eval (.Name x px) X.env) = eval (.Name x px) X.env := by rfl) : DE X (.Attribute (.Name x px) PL pos) (dMPl i) :=
  PE.by (pe_fld (pe_var hN hv hd hcd) hb) fun σ H Q h => by
    obtain ⟨G, δ, r, δ', R, e, q⟩ := h
    obtain ⟨o, e0, e⟩ := bind_some_of e
    cases e
    obtain ⟨p, k1, km⟩ := R.slot i _ (moS_at e0)
    obtain ⟨dx, ad, k2, _⟩ := (hU.eq _ _ _ _).mp km
    refine ⟨_, getD_some k1, p, _, dx, _, .int o.pl, rfl, R.sub _ _ k2, c, na, ?_, q _ G H R Stp.refl (.int _)⟩
    unfold mFs PL
    rfl
theorem mmeth_go (hU : IsU X.prog X.w X.K sp li mm) {H : Hp} {Q : VK} {E : XK} {σ : SS} {i : Nat} (hmn : ((mFs ⟨0, .none, .none⟩ fun _ => 0).map (·.1)).contains m = false) (nd : (agI (.io i :: as)).Nodup) (hn : as.length + 1 = n) (h : tD X.K (dMMeth fn i as) σ H Q)  : tMeth Memo.C m (spD X.K n fn) [] E (tVar i) (tAg X.K as) σ H Q := by
  obtain ⟨G, δ, r, δ', R, e, q⟩ := h
  obtain ⟨o, e0, e⟩ := bind_some_of e
  obtain ⟨p, k1, km⟩ := R.slot i _ (moS_at e0)
  obtain ⟨dx, ad, k2, k3⟩ := (hU.eq _ _ _ _).mp km
  have k1 := getD_some k1
  refine ⟨_, k1, p, dx, _, rfl, R.sub _ _ k2, ?_, ?_⟩
  · have : (mFs o ad).map (·.1) = (mFs ⟨0, .none, .none⟩ fun _ => 0).map (·.1) := rfl
    rw [← this] at hmn
    clear this
    generalize mFs o ad = l at hmn
    induction l with
    | nil => rfl
    | cons a l ih =>
      rw [List.map_cons, List.contains_cons, Bool.or_eq_false_iff] at hmn
      obtain ⟨a1, a2⟩ := a
      rw [List.lookup_cons, hmn.1]
      exact ih hmn.2
  obtain ⟨G2, δ2, ps, δ3, R2, e2, q2⟩ := callM_go (E := E) nd hn ⟨G, δ, r, δ', R, e, q⟩
  obtain ⟨u, e4, e2⟩ := bind_some_of e2
  obtain ⟨⟨ps1, δ4⟩, e3, e2⟩ := bind_some_of e2
  cases e2
  refine ⟨G2, δ2, ps1, _, R2, e3, fun vs G3 H3 R3 st3 aw => ?_⟩
  show spD X.K n fn (.ref p :: (vs ++ [])) H3 Q E
  rw [List.append_nil]
  exact q2 (.ref p :: vs) G3 H3 R3 st3 ⟨k1, aw⟩
theorem de_mmeth {pl : Sem Bool} (i : Nat) (hU : IsU X.prog X.w X.K sp li mm) (hgd : X.A.guards = some []) (c : Cls X.K Memo.C) (hm : Meth X.K Memo.C m f) (F : FnG X.prog X.w X.K X.mg X.base CX0 k f fd ps (spD X.K n fn)) (hr : Room k X.A) (hb : Binds X.K fd ps []) (ha : DA X (e :: es) as)
    (hmn : ((mFs ⟨0, .none, .none⟩ fun _ => 0).map (·.1)).contains m = false := by decide) (nd : (agI (.io i :: as)).Nodup := by decide) (hn : as.length + 1 = n := by rfl)
    (hN : X.N[i]? = some x := by rfl) (hv : Vis X.env.scope x := by first | exact Or.inl rfl | exact Or.inr (Or.inl rfl) | exact Or.inr (Or.inr rfl)) (hd : (x == ("__debug__" : Str)) = false := by decide) (hcd : (x == ("__classdict__" : Str)) = false := by decide)
    (hst : starEach (e :: es) X.env = (false, eval e X.env) :: starEach es X.env := by rfl) (hpl : (backTo pos (starEach es X.env)).any (·.1) = false := by rfl)
    (ht : eval (.Call (.Attribute (.Name x px) m apos) (e :: es) [] pos) X.env = (do
      let ov ← eval (.Name x px) X.env
      standAt apos.atName
      let (f, first) ← holding [ov] (getMethod ov m pl)
      callWith pos f first (backTo pos (starEach (e :: es) X.env)) (backToKw pos (keywordEach [] X.env))) := by rfl) :
    DE X (.Call (.Attribute (.Name x px) m apos) (e :: es) [] pos) (dMMeth fn i as) :=
  PE.by (pe_methG (pl := pl) hgd (pe_var hN hv hd hcd) c hm F hr hb pass0 ha hst hpl ht) fun σ H Q h => mmeth_go hU hmn nd hn h
end
end CK
/-! what is looked up, or else reckoned and kept -/
namespace CK
open PySem PySem.Spec PyProof.Rows L2
variable [mm : Memo]

/-- a tuple that can be a key -/
def keyOk (d : PyData) : Bool := match d with
  | .tuple ds => match keysD ds with
    | some ks => decide ((NestedKey.tup ks).depth ≤ 8)
    | none => false
  | _ => false
theorem keyOk_of {d : PyData} (h : keyOk d = true) : ∃ ds ks, d = .tuple ds ∧ keyD d = some (.tup ks) ∧ (NestedKey.tup ks).depth ≤ 8 := by
  unfold keyOk at h
  split at h
  · rename_i ds
    split at h
    · rename_i ks hk
      exact ⟨ds, ks, rfl, by rw [keyD, hk]; rfl, of_decide_eq_true h⟩
    · cases h
  · cases h
open Classical in
/-- if k not in self.f: B; self.f[k] = F -- return self.f[k] -/
noncomputable def sMemo (sp : SpT) (li : LiT) (i k : Nat) (f : Str) (B : Sm) (F : Ex) : Sm := fun δ => (moS δ[i]?).bind fun x => (rdN δ k).bind fun kd => if kd ∈ li x f ∧ keyOk kd = true then
    (B δ).bind fun y => (match y.1 with | .nx => some () | _ => none).bind fun _ => (F y.2).bind fun z => z.1.sh.bind fun d =>
      if sp x f kd = some d ∧ moS z.2[i]? = some x ∧ rdN z.2 k = some kd ∧ z.2.length = δ.length then some (.rt (.im d), (List.replicate z.2.length Sl.no).set i (.mo x)) else none
  else none
section
variable {K : PySem.W.Frag} {P : Program} {w : World} {G H : Hp} {sp : SpT} {li : LiT} {x : Inf} {f : Str} {es : MEs}
theorem Val.ks (h : Val K sp li G x f es) (s : Same G H) : KsOk K H es := fun e he => by
  obtain ⟨kd, d, h1, h2, h3, _⟩ := h e he
  exact ⟨kd, h1, h2, h3.same s⟩
theorem Val.len (h : Val K sp li G x f es) (nd : (es.map (·.1)).Nodup) : es.length ≤ (li x f).length := by
  have h1 : (es.map (·.1)).length ≤ ((li x f).filterMap keyD).length := nodup_len nd fun k hk => by
    obtain ⟨e, he, rfl⟩ := List.mem_map.mp hk
    obtain ⟨kd, d, h1, _, _, _, _, h5⟩ := h e he
    exact List.mem_filterMap.mpr ⟨kd, h5, h1⟩
  rw [List.length_map] at h1
  exact Nat.le_trans h1 (List.length_filterMap_le _ _)
theorem Val.put {k : NestedKey} {b : Addr} {y : V} {kd d : PyData} (h : Val K sp li G x f es) (h1 : keyD kd = some k) (h2 : k.depth ≤ 8) (h3 : Rp K G (.ref b) kd) (h4 : Rp K G y d) (h5 : sp x f kd = some d) (h6 : kd ∈ li x f) : Val K sp li G x f (putE es k b y) := fun e he => by
  rcases putE_mem he with he | ⟨e1, e2, e3⟩
  · exact h e he
  · rcases e3 with e3 | ⟨e', he', e4, e5⟩
    · exact ⟨kd, d, by rw [e1]; exact h1, by rw [e1]; exact h2, by rw [e3]; exact h3, by rw [e2]; exact h4, h5, h6⟩
    · obtain ⟨kd', d', k1, k2, k3, _⟩ := h e' he'
      have : kd' = kd := by rw [keyD_data k1, keyD_data h1, e4]
      subst this
      exact ⟨kd', d, by rw [e1]; exact h1, by rw [e1]; exact h2, by rw [← e5]; exact k3, by rw [e2]; exact h4, h5, h6⟩
theorem atE_put {k : NestedKey} {b : Addr} {y : V} : atE (putE es k b y) k = some y := by
  unfold putE
  split
  · rename_i h
    unfold atE at h ⊢
    rw [Option.isSome_map] at h
    induction es with
    | nil => cases h
    | cons e es ih =>
      rw [List.map_cons, List.find?_cons]
      rw [List.find?_cons] at h
      by_cases z : e.1 = k
      · rw [if_pos z]
        have : decide (e.1 = k) = true := decide_eq_true z
        simp only [this]
        rfl
      · rw [if_neg z]
        have hd : decide (e.1 = k) = false := decide_eq_false z
        simp only [hd] at h ⊢
        exact ih h
  · rename_i h
    unfold atE at h ⊢
    rw [Option.isSome_map] at h
    rw [List.find?_append]
    cases hf : es.find? fun e => decide (e.1 = k) with
    | none => simp
    | some u => rw [hf] at h; exact absurd rfl h
end
section
variable {X : Cx} {sp : SpT} {li : LiT} {Pn : List Nat} {p1 p2 p3 p4 p5 p6 p7 p8 p9 p10 p11 p12 p13 p14 p15 p16 : Pos} {self key fld : Str} {value : Expr} {body : List Stmt} {B : Sm} {F : Ex}
/-- the dict of an object that remembers -/
theorem mu_at {G H : Hp} {p : Addr} {x : Inf} (hU : IsU X.prog X.w X.K sp li mm) (hf : fld ∈ mNames) (h : Memo.M G H p x) : ∃ dx fs a es, G p = some (.ins Memo.C dx fs) ∧ fs.lookup fld = some (.ref a) ∧ H a = some (.ext (Lab X.prog X.w a es)) ∧ G a = none ∧ Memo.W a ∧ Val X.K sp li G x fld es ∧ (li x fld).length ≤ sizeLine ∧
    ∀ es', Val X.K sp li G x fld es' → Memo.M G (upd H a (.ext (Lab X.prog X.w a es'))) p x := by
  obtain ⟨dx, ad, h1, h2, h3, h4⟩ := (hU.eq _ _ _ _).mp h
  obtain ⟨w1, es, e1, e0, e2⟩ := h3 fld hf
  refine ⟨dx, _, ad fld, es, h1, mFs_at x ad hf, e1, e0, w1, e2, h4 fld hf, fun es' hv => (hU.eq _ _ _ _).mpr ⟨dx, ad, h1, h2, fun g hg => ?_, h4⟩⟩
  by_cases z : ad g = ad fld
  · have := h2 g hg fld hf z
    subst this
    exact ⟨w1, es', upd_same, e0, hv⟩
  · obtain ⟨w2, es2, k1, k0, k2⟩ := h3 g hg
    exact ⟨w2, es2, by rw [upd_ne z]; exact k1, k0, k2⟩
theorem dmb_last (i k : Nat) (hu : X.A.units + 64 < cLine) (he : DE X value F)
    (hN : X.N[i]? = some self := by rfl) (hv : Vis X.env.scope self := by first | exact Or.inl rfl | exact Or.inr (Or.inl rfl) | exact Or.inr (Or.inr rfl)) (hd : (self == ("__debug__" : Str)) = false := by decide) (hcd : (self == ("__classdict__" : Str)) = false := by decide)
    (kN : X.N[k]? = some key := by rfl) (kv : Vis X.env.scope key := by first | exact Or.inl rfl | exact Or.inr (Or.inl rfl) | exact Or.inr (Or.inr rfl)) (kd : (key == ("__debug__" : Str)) = false := by decide) (kcd : (key == ("__classdict__" : Str)) = false := by decide)
    (hab : ∀ p, attributeBase (.Name self p) fld X.env (eval (.Name self p) X.env) = eval (.Name self p) X.env := by intro _; rfl) (hs : swapsWith value (some (.Subscript (.Attribute (.Name self p1) fld p2) (.Name key p3) p4)) p5.line X.env = pure false := by rfl) :
    PSs X [.Assign [.Subscript (.Attribute (.Name self p1) fld p2) (.Name key p3) p4] value p5] (tSeq (tS X.K Pn sNext) (sMPut X (tFld X.K (tVar i) fld) (tVar k) (tD X.K F))) :=
  PSs.by (pss_one (ps_mput (pos := p5) (pos' := p4) hu (pe_fld (pe_var hN hv hd hcd) (hab p1)) (pe_var (pos := p3) kN kv kd kcd) he hs)) fun D σ H h => by
    obtain ⟨G, δ, fl, δ', R, e, q⟩ := h
    cases e
    exact q σ G H R Stp.refl Pin.refl
theorem dmb_cons {st : Stmt} {ss : List Stmt} {S : Sm} {M : TS} (h1 : DS X Pn st S) (h2 : PSs X ss (tSeq (tS X.K Pn B) M)) : PSs X (st :: ss) (tSeq (tS X.K Pn (sSeq S B)) M) := PSs.by (pss_cons h1 h2) fun _ _ _ h => seq_go h
open Classical in
theorem dss_memo [Triv mm] (i k : Nat) (hU : IsU X.prog X.w X.K sp li mm) (hu : X.A.units + 64 < cLine) (c : Cls X.K Memo.C) (na : NoAttr X.K Memo.C fld) (hb : PSs X body (tSeq (tS X.K Pn B) (sMPut X (tFld X.K (tVar i) fld) (tVar k) (tD X.K F)))) (hf : fld ∈ mNames := by decide)
    (hN : X.N[i]? = some self := by rfl) (hv : Vis X.env.scope self := by first | exact Or.inl rfl | exact Or.inr (Or.inl rfl) | exact Or.inr (Or.inr rfl)) (hd : (self == ("__debug__" : Str)) = false := by decide) (hcd : (self == ("__classdict__" : Str)) = false := by decide)
    (kN : X.N[k]? = some key := by rfl) (kv : Vis X.env.scope key := by first | exact Or.inl rfl | exact Or.inr (Or.inl rfl) | exact Or.inr (Or.inr rfl)) (kd : (key == ("__debug__" : Str)) = false := by decide) (kcd : (key == ("__classdict__" : Str)) = false := by decide)
    (hab : ∀ p, attributeBase (.Name self p) fld X.env (eval (.Name self p) X.env) = eval (.Name self p) X.env := by intro _; rfl)
    (hns : ∀ p, NoSl (.Name key p) := by intro _ _ _; rfl) (hm : behindInMarks .NotIn (.Attribute (.Name self p7) fld p8) = false := by rfl) :
    DSs X Pn [.If (.Compare (.Name key p6) [.NotIn] [.Attribute (.Name self p7) fld p8] p9) body [] p10, .Return (some (.Subscript (.Attribute (.Name self p11) fld p12) (.Name key p13) p14)) p15] (sMemo sp li i k fld B F) := by
  have fE : ∀ p q, PE X (.Attribute (.Name self p) fld q) (tFld X.K (tVar i) fld) := fun p q => pe_fld (pe_var hN hv hd hcd) (hab p)
  have kE : ∀ p, PE X (.Name key p) (tVar k) := fun p => pe_var kN kv kd kcd
  have test : PT X (.Compare (.Name key p6) [.NotIn] [.Attribute (.Name self p7) fld p8] p9) _ := pt_cmpR (op_mnin hu) (kE p6) (fE p7 p8) hm
  refine PSs.by (pss_cons (ps_if test hb pss_nil) (pss_one (ps_ret (pe_mget hu (fE p11 p12) (kE p13) (hns p13))))) fun D σ H h => ?_
  obtain ⟨G, δ, fl, δ', R, e, q⟩ := h
  obtain ⟨x, e0, e⟩ := bind_some_of e
  obtain ⟨kd0, e1, e⟩ := bind_some_of e
  obtain ⟨⟨hL, hK⟩, e⟩ := @of_ite0 mm _ _ _ _ _ e
  obtain ⟨⟨fl1, δ1⟩, e2, e⟩ := bind_some_of e
  obtain ⟨u, e3, e⟩ := bind_some_of e
  obtain ⟨⟨r4, δ4⟩, e4, e⟩ := bind_some_of e
  obtain ⟨d, e5, e⟩ := bind_some_of e
  obtain ⟨⟨h6, h7, h8, h9⟩, e⟩ := @of_ite mm _ _ _ _ _ e
  cases e
  obtain ⟨ds0, ks0, kt, hk1, hk2⟩ := keyOk_of hK
  -- the key's slot
  have keyAt : ∀ {G : Hp} {H : Hp} {σ : SS} {δ : List Sl}, Rel X.K G H σ δ → rdN δ k = some kd0 → ∃ b, σ[k]? = some (some (.ref b)) ∧ Rp X.K G (.ref b) kd0 := fun {G H σ δ} R hr => by
    unfold rdN at hr
    split at hr
    · rename_i d' hd'
      cases hr
      obtain ⟨v, z1, z2⟩ := R.im hd'
      subst kt
      cases z2
      exact ⟨_, z1, by rename_i s1 s2; exact .tup s1 s2⟩
    · cases hr; cases kt
    · cases hr
  have obj : ∀ {G : Hp} {H : Hp} {σ : SS} {δ : List Sl}, Rel X.K G H σ δ → moS δ[i]? = some x → ∃ p, σ[i]? = some (some (.ref p)) ∧ Memo.M G H p x := fun {G H σ δ} R hr => by
    obtain ⟨p, z1, z2⟩ := R.slot i _ (moS_at hr)
    exact ⟨p, getD_some z1, z2⟩
  -- what is given back
  have fin : ∀ {G2 H2 : Hp} {σ2 : SS} {δ2 : List Sl} {p a b : Addr} {dx : Addr} {fs : List (Str × V)} {es : MEs} (R2 : Rel X.K G2 H2 σ2 δ2) (st : Stp σ δ G H σ2 δ2 G2 H2) (pin : Pin Pn σ σ2) (m2 : moS δ2[i]? = some x) (hlen : δ2.length = δ4.length)
      (s1 : σ2[i]? = some (some (.ref p))) (m1 : Memo.M G2 H2 p x) (g1 : G2 p = some (.ins Memo.C dx fs)) (g2 : fs.lookup fld = some (.ref a)) (g3 : H2 a = some (.ext (Lab X.prog X.w a es))) (g4 : Val X.K sp li G2 x fld es) (s2 : σ2[k]? = some (some (.ref b))) (rb : Rp X.K G2 (.ref b) kd0)
      (pres : (atE es (.tup ks0)).isSome = true), tRet (tMGet X (tFld X.K (tVar i) fld) (tVar k)) D σ2 H2 := fun {G2 H2 σ2 δ2 p a b dx fs es} R2 st pin m2 hlen s1 m1 g1 g2 g3 g4 s2 rb pres => by
    obtain ⟨v, hv⟩ := Option.isSome_iff_exists.mp pres
    obtain ⟨ka, hm⟩ := atE_mem hv
    obtain ⟨kd', d', j1, j2, j3, j4, j5, j6⟩ := g4 _ hm
    have : kd' = kd0 := by rw [keyD_data j1, keyD_data hk1]
    subst this
    rw [h6] at j5; cases j5
    refine ⟨_, s1, p, _, dx, fs, .ref a, rfl, R2.sub _ _ g1, c, na, g2, .ref b, s2, a, b, .tup ks0, kd', es, v, rfl, rfl, hk1, hk2, rb.same R2.sub, g3, g4.ks R2.sub, hv, ?_⟩
    -- the slots are given up
    have il : i < δ2.length := by
      have := moS_at m2
      exact (List.getElem?_eq_some_iff.mp this).1
    have il' : i < (List.replicate δ2.length Sl.no).length := by rw [List.length_replicate]; exact il
    have noB : ∀ (j : Nat) (t : Bt) (ds : List PyData), ((List.replicate δ2.length Sl.no).set i (.mo x))[j]? ≠ some (.bx t ds) := fun j t ds z => by
      by_cases hj : j = i
      · subst hj; rw [List.getElem?_set_self il'] at z; cases z
      · rw [List.getElem?_set_ne (Ne.symm hj)] at z
        cases List.eq_of_mem_replicate (List.mem_of_getElem? z)
    have R3 : Rel X.K G2 H2 σ2 ((List.replicate δ2.length Sl.no).set i (.mo x)) := by
      refine ⟨R2.sub, by simpa using R2.len, fun j s hs => ?_, fun j l p t u ds es z1 z2 => absurd z2 (noB _ _ _), R2.inv⟩
      by_cases hj : j = i
      · subst hj; rw [List.getElem?_set_self il'] at hs; cases hs
        exact ⟨p, by rw [s1]; rfl, m1⟩
      · rw [List.getElem?_set_ne (Ne.symm hj)] at hs
        cases List.eq_of_mem_replicate (List.mem_of_getElem? hs)
        trivial
    have st3 : Stp σ δ G H σ2 ((List.replicate δ2.length Sl.no).set i (.mo x)) G2 H2 := st.own_end fun a ⟨j, t, ds, _, z⟩ => absurd z (noB _ _ _)
    rw [hlen] at R3 st3
    exact q σ2 G2 H2 R3 st3 pin v j4
  obtain ⟨p, s1, m1⟩ := obj R e0
  obtain ⟨dx, fs, a, es, g1, g2, g3, g0, gw, g4, gl, _⟩ := mu_at hU hf m1
  obtain ⟨b, s2, rb⟩ := keyAt R e1
  refine ⟨_, s2, _, s1, p, _, dx, fs, .ref a, rfl, R.sub _ _ g1, c, na, g2, a, b, .tup ks0, kd0, es, rfl, rfl, hk1, hk2, rb.same R.sub, g3, g4.ks R.sub, ?_⟩
  cases hat : atE es (.tup ks0) with
  | some v0 =>
    -- it is there
    refine ⟨false, rfl, ?_⟩
    dsimp only
    rw [if_neg Bool.false_ne_true]
    exact fin (R2 := R) Stp.refl Pin.refl e0 h9.symm s1 m1 g1 g2 g3 g4 s2 rb (by rw [hat]; rfl)
  | none =>
    refine ⟨true, rfl, ?_⟩
    dsimp only
    rw [if_pos rfl]
    refine tS_run R e2 fun σ1 G1 H1 R1 st1 pin1 => ?_
    have hf1 : fl1 = .nx := by
      cases fl1 with
      | nx => rfl
      | bk => cases e3
      | ct => cases e3
      | rt r => cases e3
    subst hf1
    refine tD_run R1 e4 fun v G2 H2 R2 st2 rv => ?_
    obtain ⟨G3, R3, st3, _, rp⟩ := RV.shared R2 st2 rv e5
    obtain ⟨p2, t1, n1⟩ := obj R3 h7
    obtain ⟨dx2, fs2, a2, es2, l1, l2, l3, l0, lw, l4, ll, lm⟩ := mu_at hU hf n1
    obtain ⟨b2, t2, rb2⟩ := keyAt R3 h8
    have hv2 : Val X.K sp li G3 x fld (putE es2 (.tup ks0) b2 v) := l4.put hk1 hk2 rb2 rp h6 hL
    refine ⟨_, t1, p2, _, dx2, fs2, .ref a2, rfl, R3.sub _ _ l1, c, na, l2, .ref b2, t2, a2, b2, .tup ks0, kd0, es2, rfl, rfl, hk1, hk2, rb2.same R3.sub, l3, l4.ks R3.sub, fun nd => Nat.le_trans (l4.len nd) ll, ?_⟩
    -- the heap behind the store
    have stA := st1.trans st3
    have noB : ∀ (j : Nat) (t : Bt) (ds : List PyData), ((List.replicate δ4.length Sl.no).set i (.mo x))[j]? ≠ some (.bx t ds) := fun j t ds z => by
      by_cases hj : j = i
      · subst hj
        rw [List.getElem?_set_self (by
          have := (List.getElem?_eq_some_iff.mp z).1
          simpa using this)] at z; cases z
      · rw [List.getElem?_set_ne (Ne.symm hj)] at z
        cases List.eq_of_mem_replicate (List.mem_of_getElem? z)
    have il : i < (List.replicate δ4.length Sl.no).length := by
      rw [List.length_replicate]
      exact (List.getElem?_eq_some_iff.mp (moS_at h7)).1
    have R4 : Rel X.K G3 (upd H2 a2 (.ext (Lab X.prog X.w a2 (putE es2 (.tup ks0) b2 v)))) σ1 ((List.replicate δ4.length Sl.no).set i (.mo x)) := by
      refine ⟨fun y u z => ?_, by simpa using R3.len, fun j s hs => ?_, fun j l p t u ds es z1 z2 => absurd z2 (noB _ _ _), Triv.all _ _⟩
      · have : y ≠ a2 := fun yz => by rw [yz, l0] at z; cases z
        rw [upd_ne this]; exact R3.sub _ _ z
      · by_cases hj : j = i
        · subst hj; rw [List.getElem?_set_self il] at hs; cases hs
          exact ⟨p2, by rw [t1]; rfl, lm _ hv2⟩
        · rw [List.getElem?_set_ne (Ne.symm hj)] at hs
          cases List.eq_of_mem_replicate (List.mem_of_getElem? hs)
          trivial
    have st4 : Stp σ δ G H σ1 ((List.replicate δ4.length Sl.no).set i (.mo x)) G3 (upd H2 a2 (.ext (Lab X.prog X.w a2 (putE es2 (.tup ks0) b2 v)))) := by
      refine ⟨fun y u z n => ⟨fun nv => ?_, fun ⟨j, t, ds, _, z⟩ => noB _ _ _ z⟩, fun y z => ?_, stA.same, stA.grow⟩
      · have h2 := (stA.keep y u z n).1 nv
        have : y ≠ a2 := fun yz => by
          rw [yz, l3] at h2; cases h2
          exact nv ⟨⟨_, rfl⟩, yz ▸ lw⟩
        rw [upd_ne this]; exact h2
      · by_cases yz : y = a2
        · rw [yz, upd_same] at z; cases z
        · rw [upd_ne yz] at z; exact stA.dom y z
    exact fin (R2 := R4) st4 pin1 (by rw [List.getElem?_set_self il]; rfl) (by simp) t1 (lm _ hv2) l1 l2 upd_same hv2 t2 rb2 (by rw [atE_put]; rfl)
end
end CK
/-! how an object that remembers is made, and asked at once -/
namespace CK
open PySem PySem.Spec PyProof.Rows L2

/-! ### o.f as a target -/
def gFld (K : PySem.W.Frag) (ta : TE) (f : Str) : TG := fun v σ H Q => ta σ H fun x H2 => ∃ a C dx fs, x = .ref a ∧ H2 a = some (.ins C dx fs) ∧ Cls K C ∧ NoAttr K C f ∧ fs.length < 1000 ∧ Q σ (upd H2 a (.ins C dx (putF f v fs)))
theorem pg_fld {X : Cx} {o : Expr} {ta : TE} {f : Str} {pos : Pos} (ha : PE X o ta) : PG X (.Attribute o f pos) (gFld X.K ta f) := by
  refine ⟨fun pins s σ H v u Q I r h => ?_⟩
  rw [PySem.arm_assign_Attribute]
  refine wpAny_bind (wpAny_holding (thn (ha.run pins s σ H _ I h) fun ov s1 ⟨x, H1, I1, r1, a, C, dx, fs, ex, ea, c, n, l, q1⟩ => ?_))
  subst ex
  obtain rfl : ov = Value.ref a := r1
  refine wpAny_bind (wpAny_standAt (wpAny_bind (wpAny_holding ?_)))
  exact setattr_ok I1 ea c n l r fun s3 I3 => wpAny_release ⟨σ, _, I3, q1⟩
/-- {} that is to be told by its entries -/
def tNewE (X : Cx) : TE := fun _ H Q => ∀ p, H p = none → Q (.ref p) (upd H p (.ext (Lab X.prog X.w p [])))
theorem pe_newE {X : Cx} {pos : Pos} : PE X (.Dict [] [] pos) (tNewE X) := ⟨fun pins s σ H Q I h =>
  wpAny_Dict_empty ⟨.ref s.heap.objs.size, _, I.laid (a := s.heap.objs.size) (t' := s.toks) (fun _ _ q => Heap.get?_push_of_some _ q) (Nat.le_refl _)
    (lab_ok ⟨beq_eq_false_iff_ne.mpr (Ne.symm (Nat.ne_of_lt I.big)), _, #[], 0, [], Heap.get?_push_size _ rfl, ⟨rfl, rfl, rfl⟩, rfl, rfl, List.nodup_nil, .nil⟩), rfl, h _ (I.hok.fresh (Nat.le_refl _))⟩⟩

/-! ### __init__ -/
/-- what __init__ makes: three dicts, a tuple that is thrown away, the attributes -/
def spI (P : Program) (w : World) (C : Addr) : Sp := fun vs H Q _ => ∃ x dx n, vs = [.ref x, .int n] ∧ H x = some (.ins C dx []) ∧
  ∀ (ad : Str → Addr) (H' : Hp), (∀ f ∈ mNames, ∀ g ∈ mNames, ad f = ad g → f = g) → (∀ f ∈ mNames, H (ad f) = none ∧ H' (ad f) = some (.ext (Lab P w (ad f) []))) → (∀ b, H b ≠ none → b ≠ x → H' b = H b) → H' x = some (.ins C dx (mFs ⟨n, .none, .none⟩ ad)) → Q .non H'
theorem init_go {X : Cx} {C x : Addr} {n : Int} {H : Hp} {Q : VK} {E : XK} (hs : spI X.prog X.w C [.ref x, .int n] H Q E) (c : Cls X.K C) (n0 : NoAttr X.K C "own_places") (n1 : NoAttr X.K C "own_rows") (n2 : NoAttr X.K C "own_whole") (n3 : NoAttr X.K C "own_below") :
    tAsg (tTup (tCons (tVar 1) (tCons (tNewE X) (tCons (tNewE X) (tCons (tNewE X) tNil))))) (gTup X.K 4 (gCons (gFld X.K (tVar 0) "own_places") (gCons (gFld X.K (tVar 0) "own_rows") (gCons (gFld X.K (tVar 0) "own_whole") (gCons (gFld X.K (tVar 0) "own_below") gNil)))))
      { nx := fun _ H' => Q .non H', rt := Q } (L2.start ["self", "places"] [.ref x, .int n]) H := by
  obtain ⟨x', dx, n', e, hx, hq⟩ := hs
  cases e
  refine ⟨.int n, rfl, fun a na b nb cc nc => ⟨by show 4 ≤ sizeLine; rw [sizeLine_eq]; omega, fun t nt => ?_⟩⟩
  have hxa : x ≠ a := fun z => by rw [z, na] at hx; cases hx
  have nb' := nb
  have hab : b ≠ a := fun z => by rw [z, upd_same] at nb; cases nb
  rw [upd_ne hab] at nb
  have hxb : x ≠ b := fun z => by rw [z, nb] at hx; cases hx
  have hcb : cc ≠ b := fun z => by rw [z, upd_same] at nc; cases nc
  rw [upd_ne hcb] at nc
  have hca : cc ≠ a := fun z => by rw [z, upd_same] at nc; cases nc
  rw [upd_ne hca] at nc
  have hxc : x ≠ cc := fun z => by rw [z, nc] at hx; cases hx
  have htc : t ≠ cc := fun z => by rw [z, upd_same] at nt; cases nt
  rw [upd_ne htc] at nt
  have htb : t ≠ b := fun z => by rw [z, upd_same] at nt; cases nt
  rw [upd_ne htb] at nt
  have hta : t ≠ a := fun z => by rw [z, upd_same] at nt; cases nt
  rw [upd_ne hta] at nt
  have hxt : x ≠ t := fun z => by rw [z, nt] at hx; cases hx
  let ad : Str → Addr := fun f => if f = "own_rows" then a else if f = "own_whole" then b else cc
  have ar : ad "own_rows" = a := if_pos rfl
  have aw : ad "own_whole" = b := by
    show (if ("own_whole" : Str) = "own_rows" then a else if ("own_whole" : Str) = "own_whole" then b else cc) = b
    rw [if_neg (by decide), if_pos rfl]
  have ab : ad "own_below" = cc := by
    show (if ("own_below" : Str) = "own_rows" then a else if ("own_below" : Str) = "own_whole" then b else cc) = cc
    rw [if_neg (by decide), if_neg (by decide)]
  refine ⟨t, _, rfl, .inl (.inl upd_same), rfl, .int n, _, rfl, .ref x, rfl, x, C, dx, [], rfl, by rw [upd_ne hxt, upd_ne hxc, upd_ne hxb, upd_ne hxa]; exact hx, c, n0, by decide, ?_⟩
  refine ⟨.ref a, _, rfl, .ref x, rfl, x, C, dx, _, rfl, upd_same, c, n1, (show 1 < 1000 by decide), ?_⟩
  refine ⟨.ref b, _, rfl, .ref x, rfl, x, C, dx, _, rfl, upd_same, c, n2, (show 2 < 1000 by decide), ?_⟩
  refine ⟨.ref cc, _, rfl, .ref x, rfl, x, C, dx, _, rfl, upd_same, c, n3, (show 3 < 1000 by decide), ?_⟩
  refine ⟨rfl, hq ad _ ?_ ?_ ?_ ?_⟩
  · intro f hf g hg h
    simp only [mNames, List.mem_cons, List.not_mem_nil, or_false] at hf hg
    rcases hf with rfl | rfl | rfl <;> rcases hg with rfl | rfl | rfl <;> first | rfl | (exfalso; simp only [ar, aw, ab] at h; first | exact hab h | exact hab h.symm | exact hca h | exact hca h.symm | exact hcb h | exact hcb h.symm)
  · intro f hf
    simp only [mNames, List.mem_cons, List.not_mem_nil, or_false] at hf
    rcases hf with rfl | rfl | rfl
    · rw [ar]; exact ⟨na, by rw [upd_ne (Ne.symm hxa), upd_ne (Ne.symm hxa), upd_ne (Ne.symm hxa), upd_ne (Ne.symm hxa), upd_ne (Ne.symm hta), upd_ne (Ne.symm hca), upd_ne (Ne.symm hab), upd_same]⟩
    · rw [aw]; exact ⟨nb, by rw [upd_ne (Ne.symm hxb), upd_ne (Ne.symm hxb), upd_ne (Ne.symm hxb), upd_ne (Ne.symm hxb), upd_ne (Ne.symm htb), upd_ne (Ne.symm hcb), upd_same]⟩
    · rw [ab]; exact ⟨nc, by rw [upd_ne (Ne.symm hxc), upd_ne (Ne.symm hxc), upd_ne (Ne.symm hxc), upd_ne (Ne.symm hxc), upd_ne (Ne.symm htc), upd_same]⟩
  · intro y hy hyx
    have h1 : y ≠ a := fun z => hy (by rw [z]; exact na)
    have h2 : y ≠ b := fun z => hy (by rw [z]; exact nb)
    have h3 : y ≠ cc := fun z => hy (by rw [z]; exact nc)
    have h4 : y ≠ t := fun z => hy (by rw [z]; exact nt)
    rw [upd_ne hyx, upd_ne hyx, upd_ne hyx, upd_ne hyx, upd_ne h4, upd_ne h3, upd_ne h2, upd_ne h1]
  · rw [upd_same]
    unfold mFs
    rw [ar, aw, ab]
    rfl

/-! ### Unlike(places).whole(..) -/
/-- no object is told of that remembers -/
class NoM (m : Memo) : Prop where
  no : ∀ G H p x, ¬ m.M G H p x
instance (C : Addr) : NoM (plainAt C) := ⟨fun _ _ _ _ z => z⟩
def infOf (n : Int) : List Sl → Inf
  | _ :: .im a :: .im b :: _ => ⟨n, a, b⟩
  | _ => ⟨n, .none, .none⟩
def imS : Sl → Option PyData
  | .im d => some d
  | _ => none
def allIm (ss : List Sl) : Bool := ss.all fun s => match s with | .im _ => true | _ => false
open Classical in
noncomputable def dUnl (li : LiT) (mW : Fn) (F : Ex) (as : List Ag) : Ex := fun δ => (F δ).bind fun x => (intOf x.1).bind fun n => (agE as x.2).bind fun y => (agS as y.1 y.2).bind fun ss =>
  if allIm ss = true ∧ agI as = [] ∧ ∀ f ∈ mNames, (li (infOf n ss) f).length ≤ sizeLine then (mW (.mo (infOf n ss) :: ss)).bind fun z => (imS z.1).bind fun d => some (.im d, y.2) else none
/-- an instance's promise, whatever its dicts are -/
def spW (P : Program) (w : World) (K : PySem.W.Frag) (C : Addr) (sp : SpT) (li : LiT) (n : Nat) (f : Fn) : Sp := fun vs H Q E => ∃ W, @spD (memoU P w K C W sp li) K n f vs H Q E
theorem fnG_W {P : Program} {w : World} {K : PySem.W.Frag} {mg : Str → Option Value} {base : Heap} {CT : CXT} {k : Nat} {f : Addr} {fd : FuncData} {ps : List Str} {C : Addr} {sp : SpT} {li : LiT} {n : Nat} {fn : Fn}
    (h : ∀ W, FnG P w K mg base CT k f fd ps (@spD (memoU P w K C W sp li) K n fn)) : FnG P w K mg base CT k f fd ps (spW P w K C sp li n fn) :=
  ⟨fun vs H Q E ⟨W, q⟩ => (h W).arity vs H Q E q, fun A outer s H args us vs Q E a b c d e ⟨W, q⟩ => (h W).go A outer s H args us vs Q E a b c d e q⟩
section
variable {K : PySem.W.Frag} {G H H' : Hp} {σ : SS} {δ : List Sl}
/-- more objects -/
theorem Rel.more [mm : Memo] [Triv mm] (R : Rel K G H σ δ) (k : ∀ b o, H b = some o → H' b = some o) : Rel K G H' σ δ :=
  ⟨fun b o e => k _ _ (R.sub _ _ e), R.len, fun i s e => (R.slot i s e).same (Same.refl _) (fun p t ws ds _ h1 h2 _ => by
    obtain ⟨o, e1, _, kb⟩ := h1.at
    exact ⟨kb _ (k _ _ e1), h2⟩) (mSt (Same.refl _) gn_refl fun a o e _ => k _ _ e), R.inj, Triv.all _ _⟩
theorem Stp.more [mm : Memo] (k : ∀ b o, H b = some o → H' b = some o) : Stp σ δ G H σ δ G H' :=
  ⟨fun b o e n => ⟨fun _ => k _ _ e, n⟩, (fun b e => by
    cases h : H b with
    | none => rfl
    | some o => rw [k _ _ h] at e; cases e), Same.refl _, fun _ _ e => .inl e⟩
end
theorem unl_go [mm : Memo] [Triv mm] [Still mm] [NoM mm] {X : Cx} {sp : SpT} {li : LiT} {mW : Fn} {F : Ex} {as : List Ag} {n : Nat} {m : Str} {σ : SS} {H : Hp} {Q : VK} {E E' : XK} (hmn : ((mFs ⟨0, .none, .none⟩ fun _ => 0).map (·.1)).contains m = false) (hn : as.length + 1 = n)
    (h : tD X.K (dUnl li mW F as) σ H Q) : tMeth Memo.C m (spW X.prog X.w X.K Memo.C sp li n mW) [] E (tMake Memo.C (spI X.prog X.w Memo.C) [] E' (tCons (tD X.K F) tNil)) (tAg X.K as) σ H Q := by
  obtain ⟨G, δ, r, δ', R, e, q⟩ := h
  obtain ⟨⟨r1, δ1⟩, e1, e⟩ := bind_some_of e
  obtain ⟨pl, e2, e⟩ := bind_some_of e
  obtain ⟨⟨ps, δ2⟩, e3, e⟩ := bind_some_of e
  obtain ⟨ss, e4, e⟩ := bind_some_of e
  obtain ⟨⟨hss, hai, hli⟩, e⟩ := @of_ite0 mm _ _ _ _ _ e
  obtain ⟨⟨z1, zs⟩, e5, e⟩ := bind_some_of e
  obtain ⟨d, e6, e⟩ := bind_some_of e
  cases e
  refine tD_run R e1 fun v G1 H1 R1 st1 rv => ?_
  have hv := int_rv rv e2
  subst hv
  intro x dx nx ndx ne
  rw [List.append_nil]
  have hdx : upd H1 dx (.own x) x = none := by rw [upd_ne (Ne.symm ne)]; exact nx
  refine ⟨x, dx, pl, rfl, upd_same, fun ad H2 hinj hd hk hx2 => ⟨rfl, x, dx, _, rfl, hx2, ?_, ?_⟩⟩
  · have : (mFs ⟨pl, .none, .none⟩ ad).map (·.1) = (mFs ⟨0, .none, .none⟩ fun _ => 0).map (·.1) := rfl
    rw [← this] at hmn
    clear this hx2
    generalize mFs ⟨pl, .none, .none⟩ ad = l at hmn
    induction l with
    | nil => rfl
    | cons a l ih =>
      rw [List.map_cons, List.contains_cons, Bool.or_eq_false_iff] at hmn
      obtain ⟨a1, a2⟩ := a
      rw [List.lookup_cons, hmn.1]
      exact ih hmn.2
  -- all that stood ahead stands
  have k1 : ∀ b o, H1 b = some o → H2 b = some o := fun b o hb => by
    have hbx : b ≠ x := ne_of_none hb nx
    have hbd : b ≠ dx := ne_of_none hb ndx
    have h0 : upd (upd H1 dx (.own x)) x (.ins Memo.C dx []) b = some o := by rw [upd_ne hbx, upd_ne hbd]; exact hb
    rw [hk b (by rw [h0]; exact fun z => nomatch z) hbx, h0]
  have R2 : Rel X.K G1 H2 σ δ1 := R1.more k1
  have st2 : Stp σ δ1 G1 H1 σ δ1 G1 H2 := Stp.more k1
  have gx : G1 x = none := gfree R1.sub nx
  have ox : ¬ Own σ δ1 x := R1.freeOwn nx
  obtain ⟨R3, sg3⟩ := R2.share hx2 ox gx
  have st3 : Stp σ δ G H σ δ1 (upd G1 x (.ins Memo.C dx (mFs ⟨pl, .none, .none⟩ ad))) H2 := (st1.trans st2).share (st1.dom x nx) gx
  refine ⟨_, δ1, ps, δ2, R3, e3, fun vs G4 H4 R4 st4 aw => ?_⟩
  have adn : ∀ f ∈ mNames, H1 (ad f) = none ∧ H2 (ad f) = some (.ext (Lab X.prog X.w (ad f) [])) := fun f hf => by
    obtain ⟨h1, h2⟩ := hd f hf
    refine ⟨?_, h2⟩
    cases hy : H1 (ad f) with
    | none => rfl
    | some o =>
      have hbx : ad f ≠ x := ne_of_none hy nx
      have hbd : ad f ≠ dx := ne_of_none hy ndx
      rw [upd_ne hbx, upd_ne hbd, hy] at h1
      cases h1
  have ad4 : ∀ f ∈ mNames, H4 (ad f) = some (.ext (Lab X.prog X.w (ad f) [])) := fun f hf => st4.stay R3 _ _ (adn f hf).2 soft_ext
  have ga : ∀ f ∈ mNames, G4 (ad f) = none := fun f hf => by
    refine gn_stp R3 st4 _ _ (adn f hf).2 ?_
    have : ad f ≠ x := fun z => by have := (adn f hf).2; rw [z, hx2] at this; cases this
    rw [upd_ne this]
    exact gfree R1.sub (adn f hf).1
  have gx4 : G4 x = some (.ins Memo.C dx (mFs ⟨pl, .none, .none⟩ ad)) := st4.same _ _ upd_same
  obtain ⟨sl, sgt⟩ := agS_get e4 aw
  have vl := agS_len aw
  have imAt : ∀ (j : Nat) (s : Sl), ss[j]? = some s → ∃ d, s = .im d := fun j s hj => by
    have := List.all_eq_true.mp (show (ss.all fun s => match s with | .im _ => true | _ => false) = true from hss) s (List.mem_of_getElem? hj)
    cases s with
    | im d => exact ⟨d, rfl⟩
    | _ => cases this
  have noB : ∀ (j : Nat) (t : Bt) (ds : List PyData), (Sl.mo (infOf pl ss) :: ss)[j]? ≠ some (.bx t ds) := fun j t ds z => by
    cases j with
    | zero => cases z
    | succ j =>
      obtain ⟨d, hd⟩ := imAt j _ z
      cases hd
  let W : Addr → Prop := fun a => ∃ f ∈ mNames, a = ad f
  have hpl : (infOf pl ss).pl = pl := by
    unfold infOf
    split <;> rfl
  have RU : @Rel (memoU X.prog X.w X.K Memo.C W sp li) X.K G4 H4 ((V.ref x :: vs).map some) (Sl.mo (infOf pl ss) :: ss) := by
    refine @Rel.mk (memoU X.prog X.w X.K Memo.C W sp li) _ _ _ _ _ R4.sub (by simp [sl]) (fun j s hs => ?_) (fun i j p t u ds es z1 z2 => absurd z2 (noB _ _ _)) trivial
    cases j with
    | zero =>
      cases hs
      refine ⟨x, rfl, dx, ad, ?_, hinj, fun f hf => ⟨⟨f, hf, rfl⟩, [], ad4 f hf, ga f hf, fun e he => nomatch he⟩, hli⟩
      rw [gx4]
      unfold mFs
      rw [hpl]
    | succ j =>
      obtain ⟨dd, rfl⟩ := imAt j s hs
      obtain ⟨v, hv, hh⟩ := sgt j _ hs
      have ev : (((V.ref x :: vs).map some)[j + 1]?).getD none = some v := by
        show ((vs.map some)[j]?).getD none = some v
        rw [List.getElem?_map, hv]; rfl
      rw [ev]
      rcases hh with ⟨h1, _⟩ | ⟨_, _, _, _, z, _⟩ | ⟨_, _, _, z, _⟩
      · exact ⟨v, rfl, h1⟩
      · cases z
      · cases z
  refine ⟨W, ?_⟩
  show @spD (memoU X.prog X.w X.K Memo.C W sp li) X.K n mW (.ref x :: (vs ++ [])) H4 Q E
  rw [List.append_nil]
  refine ⟨by simp [vl, hn], G4, _, z1, zs, RU, e5, fun v G5 H5 R5 st5 rv5 => ?_⟩
  have R5s : Same G5 H5 := by cases R5 with | mk a b c d e => exact a
  have hz : z1 = .im d := by
    cases z1 with
    | im d' => cases e6; rfl
    | _ => cases e6
  subst hz
  have rv6 : Rp X.K G5 v d := rv5
  cases st5 with
  | mk k5 d5 s5 g5 =>
  have noOwnU : ∀ a, ¬ @Own ((V.ref x :: vs).map some) (Sl.mo (infOf pl ss) :: ss) a := fun a ⟨j, t, ds, _, z⟩ => noB _ _ _ z
  have hWn : ∀ {a : Addr}, W a → ∃ φ, H4 a = some (.ext φ) := fun {a} ⟨f, hf, e⟩ => by rw [e]; exact ⟨_, ad4 f hf⟩
  have keep5 : ∀ {a : Addr} {o : HO}, H4 a = some o → ¬ W a → H5 a = some o := fun {a o} hy hw => (k5 a o hy (noOwnU a)).1 fun z => hw z.2
  have R6 : Rel X.K G5 H5 σ δ2 := by
    refine ⟨R5s, R4.len, fun i s hs => (R4.slot i s hs).same s5 (fun p t ws ds _ h1 h2 _ => ?_) (fun y p _ _ m => absurd m (NoM.no _ _ _ _)), R4.inj, Triv.all _ _⟩
    obtain ⟨o, g1, nv, kb⟩ := h1.at
    refine ⟨kb _ (keep5 g1 fun z => ?_), ?_⟩
    · obtain ⟨φ, z⟩ := hWn z
      rw [g1] at z; cases z
      exact nv ⟨φ, rfl⟩
    · cases hy : G5 p with
      | none => rfl
      | some u =>
        rcases g5 p u hy with z | z | z
        · rw [h2] at z; cases z
        · rw [g1] at z; cases z
        · exact absurd z (noOwnU p)
  have st04 : Stp σ δ G H σ δ2 G4 H4 := st3.trans st4
  have st6 : Stp σ δ G H σ δ2 G5 H5 := by
    refine ⟨fun a o hy n => ?_, fun a hy => ?_, st04.same.trans s5, fun a o hy => ?_⟩
    · obtain ⟨y1, y2⟩ := st04.keep a o hy n
      refine ⟨fun nv => keep5 (y1 nv) fun ⟨f, hf, z⟩ => ?_, y2⟩
      have h1 := st1.dom _ (adn f hf).1
      rw [← z, hy] at h1; cases h1
    · exact st04.dom a (d5 a hy)
    · rcases g5 a o hy with z | z | z
      · exact st04.grow a o z
      · exact .inr (.inl (st04.dom a z))
      · exact absurd z (noOwnU a)
  exact q v G5 H5 R6 st6 rv6
theorem fnG_none [mm : Memo] {P : Program} {w : World} {K : PySem.W.Frag} {mg : Str → Option Value} {base : Heap} {CT : CXT} {k n : Nat} {f : Addr} {fd : FuncData} {ps : List Str} (h : ps.length = n) : FnG P w K mg base CT k f fd ps (spD K n fun _ => none) :=
  ⟨fun vs H Q E q => q.1.trans h.symm, fun A outer s H args us vs Q E _ _ _ _ _ ⟨_, _, _, _, _, _, e, _⟩ => nomatch e⟩
section
variable [mm : Memo] [Triv mm] [Still mm] [NoM mm] {X : Cx} {sp : SpT} {li : LiT} {mW : Fn} {F : Ex} {as : List Ag} {n ki kw : Nat} {x m : Str} {fi fw : Addr} {fdi fdw : FuncData} {psi psw : List Str} {np cp pos apos : Pos} {e e1 : Expr} {es : List Expr}
theorem de_unl {pl : Sem Bool} (hgd : X.A.guards = some []) (M : Mk X.K Memo.C fi) (FI : FnG X.prog X.w X.K X.mg X.base CX0 ki fi fdi psi (spI X.prog X.w Memo.C)) (hrI : Room (ki + 1) X.A) (hg : Gl X x) (hm : X.mg x = some (.ref Memo.C)) (hbI : Binds X.K fdi psi []) (hF : DE X e F)
    (c : Cls X.K Memo.C) (hmt : Meth X.K Memo.C m fw) (FW : FnG X.prog X.w X.K X.mg X.base CX0 kw fw fdw psw (spW X.prog X.w X.K Memo.C sp li n mW)) (hrW : Room kw X.A) (hbW : Binds X.K fdw psw []) (ha : DA X (e1 :: es) as)
    (hmn : ((mFs ⟨0, .none, .none⟩ fun _ => 0).map (·.1)).contains m = false := by decide) (hn : as.length + 1 = n := by rfl) (hdb : (x == ("__debug__" : Str)) = false := by decide)
    (he : starEach [e] X.env = (false, eval e X.env) :: starEach [] X.env := by rfl) (hp1 : (backTo cp (starEach [] X.env)).any (·.1) = false := by rfl)
    (hst : starEach (e1 :: es) X.env = (false, eval e1 X.env) :: starEach es X.env := by rfl) (hpl : (backTo pos (starEach es X.env)).any (·.1) = false := by rfl)
    (ht : eval (.Call (.Attribute (.Call (.Name x np) [e] [] cp) m apos) (e1 :: es) [] pos) X.env = (do
      let ov ← eval (.Call (.Name x np) [e] [] cp) X.env
      standAt apos.atName
      let (f, first) ← holding [ov] (getMethod ov m pl)
      callWith pos f first (backTo pos (starEach (e1 :: es) X.env)) (backToKw pos (keywordEach [] X.env))) := by rfl) :
    DE X (.Call (.Attribute (.Call (.Name x np) [e] [] cp) m apos) (e1 :: es) [] pos) (dUnl li mW F as) :=
  PE.by (pe_methG (pl := pl) hgd (pe_makeG hgd M FI hrI hg hm hbI pass0 (pa_cons hF pa_nil he) hdb he hp1) c hmt FW hrW hbW pass0 ha hst hpl ht) fun σ H Q h => unl_go hmn hn h
end
/-- a method, __init__, by the class's address -/
structure MEntC (C : Addr) (K : PySem.W.Frag) (m qual : Str) (st : Stmt) (ps : List Str) where
  f : Addr
  fd : FuncData
  fn : Fun K m qual st f fd
  mt : Meth K C m f
  bd : Binds K fd ps []
structure IEntC (C : Addr) (K : PySem.W.Frag) (m qual : Str) (st : Stmt) (ps : List Str) where
  f : Addr
  fd : FuncData
  fn : Fun K m qual st f fd
  make : Mk K C f
  bd : Binds K fd ps []
end CK
/-! what the functions answer: a calculus of "comes to a result that .." -/
namespace CK
open PySem L2

/-- plain forms, for the proofs -/
def Ev0 {α : Type} (o : Option α) (Q : α → Prop) : Prop := ∃ a, o = some a ∧ Q a
def Br0 (c P Q : Prop) : Prop := (c → P) ∧ (¬c → Q)
def Gd0 (c P : Prop) : Prop := c ∧ P
section
variable {α β : Type} {Q : α → Prop} {R : β → Prop} {P P' c : Prop}
theorem x_bind (o : Option β) (f : β → Option α) : Ev0 (o.bind f) Q = Ev0 o fun a => Ev0 (f a) Q := by
  cases o with
  | none => exact propext ⟨fun ⟨_, e, _⟩ => (nomatch e), fun ⟨_, e, _⟩ => (nomatch e)⟩
  | some a => exact propext ⟨fun h => ⟨a, rfl, h⟩, fun ⟨b, e, h⟩ => by cases e; exact h⟩
theorem x_some (a : α) : Ev0 (some a) Q = Q a := propext ⟨fun ⟨b, e, h⟩ => by cases e; exact h, fun h => ⟨a, rfl, h⟩⟩
theorem x_none : Ev0 (none : Option α) Q = False := propext ⟨fun ⟨_, e, _⟩ => (nomatch e), fun h => h.elim⟩
theorem x_ite [Decidable c] (x y : Option α) : Ev0 (if c then x else y) Q = Br0 c (Ev0 x Q) (Ev0 y Q) := by
  by_cases h : c
  · rw [if_pos h]; exact propext ⟨fun g => ⟨fun _ => g, fun n => (n h).elim⟩, fun g => g.1 h⟩
  · rw [if_neg h]; exact propext ⟨fun g => ⟨fun n => (h n).elim, fun _ => g⟩, fun g => g.2 h⟩
theorem x_gd [Decidable c] (x : Option α) : Ev0 (if c then x else none) Q = Gd0 c (Ev0 x Q) := by
  rw [x_ite, x_none]
  exact propext ⟨fun g => (Classical.em c).elim (fun h => ⟨h, g.1 h⟩) fun h => (g.2 h).elim, fun g => ⟨fun _ => g.2, fun h => (h g.1).elim⟩⟩
end
/-- what stays closed to simp -/
structure Tag {α : Type} (Q : α → Prop) : Type where
structure Tag2 (P Q : Prop) : Type where
/-- comes to a result that .. -/
def Ev {α : Type} (o : Option α) (Q : α → Prop) (_ : Tag Q := {}) : Prop := ∃ a, o = some a ∧ Q a
def Br (c P Q : Prop) (_ : Tag2 P Q := {}) : Prop := (c → P) ∧ (¬c → Q)
def Gd (c P : Prop) (_ : Tag2 P P := {}) : Prop := c ∧ P
theorem e0 {α : Type} (o : Option α) (Q : α → Prop) : Ev o Q = Ev0 o Q := rfl
theorem b0 (c P Q : Prop) : Br c P Q = Br0 c P Q := rfl
theorem g0 (c P : Prop) : Gd c P = Gd0 c P := rfl
section
variable {α β : Type} {Q : α → Prop} {R : β → Prop} {P P' c : Prop}
theorem Ev.mono {o : Option α} {Q' : α → Prop} (h : Ev o Q) (w : ∀ a, Q a → Q' a) : Ev o Q' := by
  obtain ⟨a, e, q⟩ := h
  exact ⟨a, e, w a q⟩
theorem ev_bind (o : Option β) (f : β → Option α) : Ev (o.bind f) Q = Ev o fun a => Ev (f a) Q := x_bind o f
theorem ev_some (a : α) : Ev (some a) Q = Q a := x_some a
theorem ev_none : Ev (none : Option α) Q = False := x_none
theorem ev_ite [Decidable c] (x y : Option α) : Ev (if c then x else y) Q = Br c (Ev x Q) (Ev y Q) := x_ite x y
theorem ev_gd [Decidable c] (x : Option α) : Ev (if c then x else none) Q = Gd c (Ev x Q) := x_gd x
theorem br_true : Br True P P' = P := propext ⟨fun h => h.1 trivial, fun h => ⟨fun _ => h, fun g => (g trivial).elim⟩⟩
theorem br_false : Br False P P' = P' := propext ⟨fun h => h.2 id, fun h => ⟨fun g => g.elim, fun _ => h⟩⟩
theorem gd_true : Gd True P = P := propext ⟨fun h => h.2, fun h => ⟨trivial, h⟩⟩
theorem br_pos (h : c) (g : P) : Br c P P' := ⟨fun _ => g, fun n => (n h).elim⟩
theorem br_neg (h : ¬c) (g : P') : Br c P P' := ⟨fun n => (h n).elim, fun _ => g⟩
theorem br_mk (h : c → P) (g : ¬c → P') : Br c P P' := ⟨h, g⟩
theorem gd_mk (h : c) (g : P) : Gd c P := ⟨h, g⟩
theorem br_not : Br (¬c) P P' = Br c P' P := propext ⟨fun h => ⟨fun g => h.2 fun n => n g, fun g => h.1 g⟩, fun h => ⟨fun g => h.2 g, fun g => h.1 (Classical.byContradiction g)⟩⟩
/-- out of an equation -/
theorem Ev.of {o : Option α} {a : α} (h : o = some a) (q : Q a) : Ev o Q := ⟨a, h, q⟩
theorem Ev.eq {o : Option α} {a : α} (h : Ev o fun x => x = a) : o = some a := by obtain ⟨b, e, rfl⟩ := h; exact e

/-! ### names -/
def rdS : Option Sl → Option PyData
  | some (.im d) => some d
  | some (.bx .l ds) => some (.list ds)
  | _ => none
theorem ev_rdN (δ : List Sl) (i : Nat) {Q : PyData → Prop} : Ev (rdN δ i) Q = Ev (rdS δ[i]?) Q := by
  unfold rdN rdS; rfl
theorem rdS_im (d : PyData) : rdS (some (.im d)) = some d := rfl
theorem rdS_ow (d : List PyData) : rdS (some (.bx .l d)) = some (.list d) := rfl
def dNS (i : Nat) (δ : List Sl) : Option Sl → Option (Sl × List Sl)
  | some (.im d) => some (.im d, δ)
  | some (.bx .l ds) => some (.im (.list ds), δ.set i (.im (.list ds)))
  | some (.fz ds) => some (.fz ds, δ)
  | some (.raw v) => some (.raw v, δ)
  | _ => none
theorem ev_dN (i : Nat) (δ : List Sl) {Q : Sl × List Sl → Prop} : Ev (dN i δ) Q = Ev (dNS i δ δ[i]?) Q := by
  unfold dN dNS; rfl
theorem dNS_im (i : Nat) (δ : List Sl) (d : PyData) : dNS i δ (some (.im d)) = some (.im d, δ) := rfl
theorem dNS_ow (i : Nat) (δ : List Sl) (d : List PyData) : dNS i δ (some (.bx .l d)) = some (.im (.list d), δ.set i (.im (.list d))) := rfl
theorem dNS_fz (i : Nat) (δ : List Sl) (d : List PyData) : dNS i δ (some (.fz d)) = some (.fz d, δ) := rfl
theorem dNS_raw (i : Nat) (δ : List Sl) (d : V) : dNS i δ (some (.raw d)) = some (.raw d, δ) := rfl
theorem ev_dC (d : PyData) (δ : List Sl) {Q : Sl × List Sl → Prop} : Ev (dC d δ) Q = Q (.im d, δ) := x_some _
theorem ev_dRaw (d : V) (δ : List Sl) {Q : Sl × List Sl → Prop} : Ev (dRaw d δ) Q = Q (.raw d, δ) := x_some _
theorem sh_im (d : PyData) : Sl.sh (.im d) = some d := rfl
theorem sh_ow (d : List PyData) : Sl.sh (.bx .l d) = some (.list d) := rfl
theorem arg_im (d : PyData) : Sl.arg (.im d) = some (.im d) := rfl
theorem arg_ow (d : List PyData) : Sl.arg (.bx .l d) = some (.im (.list d)) := rfl
theorem arg_fz (d : List PyData) : Sl.arg (.fz d) = some (.fz d) := rfl
theorem arg_raw (d : V) : Sl.arg (.raw d) = some (.raw d) := rfl
theorem bool_bl (b : Bool) : Sl.bool (.im (.bool b)) = some b := rfl
theorem intOf_int (i : Int) : intOf (.im (.int i)) = some i := rfl
/-! ### operations -/
variable {S S' : Sl × List Sl → Prop} {δ : List Sl}
theorem ev_op1n (f : PyData → Option Sl) (i : Nat) : Ev (dOp1 f (.nm i) δ) S = Ev (rdN δ i) fun d => Ev (f d) fun r => S (r, δ) := by
  simp only [e0, b0, g0, dOp1, Od.fst, Od.snd, x_bind, x_some]
  cases rdN δ i <;> simp only [e0, b0, g0, x_none, x_some]
theorem ev_op1e (f : PyData → Option Sl) (F : Ex) : Ev (dOp1 f (.ex F) δ) S = Ev (F δ) fun x => Ev x.1.sh fun d => Ev (f d) fun r => S (r, x.2) := by
  simp only [e0, b0, g0, dOp1, Od.fst, Od.snd, x_bind, x_some]
theorem ev_op2nn (f : PyData → PyData → Option Sl) (i j : Nat) : Ev (dOp2 f (.nm i) (.nm j) δ) S = Ev (rdN δ i) fun d => Ev (rdN δ j) fun e => Ev (f d e) fun r => S (r, δ) := by
  simp only [e0, b0, g0, dOp2, Od.fst, Od.snd, x_bind, x_some]
  cases rdN δ i <;> simp only [e0, b0, g0, x_none, x_some]
  cases rdN δ j <;> simp only [e0, b0, g0, x_none, x_some]
theorem ev_op2ne (f : PyData → PyData → Option Sl) (i : Nat) (F : Ex) : Ev (dOp2 f (.nm i) (.ex F) δ) S = Ev (rdN δ i) fun _ => Ev (F δ) fun y => Ev y.1.sh fun e => Ev (rdN y.2 i) fun d => Ev (f d e) fun r => S (r, y.2) := by
  simp only [e0, b0, g0, dOp2, Od.fst, Od.snd, x_bind, x_some]
theorem ev_op2en (f : PyData → PyData → Option Sl) (F : Ex) (j : Nat) : Ev (dOp2 f (.ex F) (.nm j) δ) S = Ev (F δ) fun x => Ev x.1.sh fun d => Ev (rdN x.2 j) fun e => Ev (f d e) fun r => S (r, x.2) := by
  simp only [e0, b0, g0, dOp2, Od.fst, Od.snd, x_bind, x_some]
  refine congrArg _ (funext fun x => congrArg _ (funext fun d => ?_))
  cases rdN x.2 j <;> simp only [e0, b0, g0, x_none, x_some]
theorem ev_op2ee (f : PyData → PyData → Option Sl) (F G : Ex) : Ev (dOp2 f (.ex F) (.ex G) δ) S = Ev (F δ) fun x => Ev x.1.sh fun d => Ev (G x.2) fun y => Ev y.1.sh fun e => Ev (f d e) fun r => S (r, y.2) := by
  simp only [e0, b0, g0, dOp2, Od.fst, Od.snd, x_bind, x_some]
/-! ### tests -/
variable {T : Bool × List Sl → Prop}
theorem ev_tOfE (F : Ex) : Ev (tOfE F δ) T = Ev (F δ) fun x => Ev x.1.bool fun b => T (b, x.2) := by simp only [e0, b0, g0, tOfE, x_bind, x_some]
theorem ev_tTrue : Ev (tTrue δ) T = T (true, δ) := x_some _
theorem ev_tAnd (f g : Tt) : Ev (tAndD f g δ) T = Ev (f δ) fun x => Br (x.1 = true) (Ev (g x.2) T) (T (false, x.2)) := by simp only [e0, b0, g0, tAndD, x_bind, x_ite, x_some]
theorem ev_tOr (f g : Tt) : Ev (tOrD f g δ) T = Ev (f δ) fun x => Br (x.1 = true) (T (true, x.2)) (Ev (g x.2) T) := by simp only [e0, b0, g0, tOrD, x_bind, x_ite, x_some]
theorem ev_tNot (f : Tt) : Ev (tNotD f δ) T = Ev (f δ) fun x => T (!x.1, x.2) := by simp only [e0, b0, g0, tNotD, x_bind, x_some]
theorem ev_eOfT (f : Tt) : Ev (eOfT f δ) S = Ev (f δ) fun x => S (.im (.bool x.1), x.2) := by simp only [e0, b0, g0, eOfT, x_bind, x_some]
theorem ev_dIfE (c : Tt) (f g : Ex) : Ev (dIfE c f g δ) S = Ev (c δ) fun x => Br (x.1 = true) (Ev (f x.2) S) (Ev (g x.2) S) := by simp only [e0, b0, g0, dIfE, x_bind, x_ite]
theorem ev_dAnd (f g : Ex) : Ev (dAnd f g δ) S = Ev (f δ) fun x => Ev x.1.bool fun c => Br (c = true) (Ev (g x.2) S) (S (.im (.bool false), x.2)) := by simp only [e0, b0, g0, dAnd, x_bind, x_ite, x_some]
theorem ev_dOr (f g : Ex) : Ev (dOr f g δ) S = Ev (f δ) fun x => Ev x.1.bool fun c => Br (c = true) (S (.im (.bool true), x.2)) (Ev (g x.2) S) := by simp only [e0, b0, g0, dOr, x_bind, x_ite, x_some]
theorem ev_dNot (f : Ex) : Ev (dNot f δ) S = Ev (f δ) fun x => Ev x.1.bool fun c => S (.im (.bool (!c)), x.2) := by simp only [e0, b0, g0, dNot, x_bind, x_some]
theorem ev_dCh (f g : Int → Int → Bool) (a b c : Ex) : Ev (dCh f g a b c δ) S = Ev (a δ) fun x => Ev (intOf x.1) fun i => Ev (b x.2) fun y => Ev (intOf y.1) fun j => Br (f i j = true) (Ev (c y.2) fun z => Ev (intOf z.1) fun k => S (.im (.bool (g j k)), z.2)) (S (.im (.bool false), y.2)) := by
  simp only [e0, b0, g0, dCh, x_bind, x_ite, x_some]
/-! ### statements -/
variable {U : Fl × List Sl → Prop}
def KSeq (T : Sm) (U : Fl × List Sl → Prop) : Fl → List Sl → Prop
  | .nx, δ => Ev (T δ) U
  | f, δ => U (f, δ)
theorem ev_sSeq (A B : Sm) : Ev (sSeq A B δ) U = Ev (A δ) fun x => KSeq B U x.1 x.2 := by
  simp only [e0, b0, g0, sSeq, x_bind]
  refine congrArg _ (funext fun x => ?_)
  obtain ⟨f, d⟩ := x
  cases f <;> simp only [e0, b0, g0, KSeq, x_some]
theorem kseq_nx (B : Sm) : KSeq B U .nx δ = Ev (B δ) U := rfl
theorem kseq_rt (B : Sm) (r : Sl) : KSeq B U (.rt r) δ = U (.rt r, δ) := rfl
theorem kseq_bk (B : Sm) : KSeq B U .bk δ = U (.bk, δ) := rfl
theorem kseq_ct (B : Sm) : KSeq B U .ct δ = U (.ct, δ) := rfl
theorem ev_sNext : Ev (sNext δ) U = U (.nx, δ) := x_some _
theorem ev_sBrk : Ev (sBrk δ) U = U (.bk, δ) := x_some _
theorem ev_sCt : Ev (sCt δ) U = U (.ct, δ) := x_some _
theorem ev_sStuck : Ev (sStuck δ) U = False := x_none
theorem ev_sExpr (F : Ex) : Ev (sExpr F δ) U = Ev (F δ) fun x => U (.nx, x.2) := by simp only [e0, b0, g0, sExpr, x_bind, x_some]
theorem ev_sRet (F : Ex) : Ev (sRet F δ) U = Ev (F δ) fun x => U (.rt x.1, x.2) := by simp only [e0, b0, g0, sRet, x_bind, x_some]
theorem ev_sSet (i : Nat) (F : Ex) : Ev (sSet i F δ) U = Ev (F δ) fun x => U (.nx, x.2.set i x.1) := by simp only [e0, b0, g0, sSet, x_bind, x_some]
theorem ev_sIf (c : Tt) (A B : Sm) : Ev (sIf c A B δ) U = Ev (c δ) fun x => Br (x.1 = true) (Ev (A x.2) U) (Ev (B x.2) U) := by simp only [e0, b0, g0, sIf, x_bind, x_ite]
theorem ev_sAsg (t : Tg) (F : Ex) : Ev (sAsg t F δ) U = Ev (F δ) fun x => Ev x.1.sh fun d => Ev (t d x.2) fun δ1 => U (.nx, δ1) := by simp only [e0, b0, g0, sAsg, x_bind, x_some]
theorem ev_sPar (i j : Nat) (F1 F2 : Ex) : Ev (sPar i j F1 F2 δ) U = Ev (F1 δ) fun x => Ev (F2 x.2) fun y => U (.nx, (y.2.set i x.1).set j y.1) := by simp only [e0, b0, g0, sPar, x_bind, x_some]
theorem ev_sPar3 (i j l : Nat) (F1 F2 F3 : Ex) : Ev (sPar3 i j l F1 F2 F3 δ) U = Ev (F1 δ) fun x => Ev (F2 x.2) fun y => Ev (F3 y.2) fun z => U (.nx, ((z.2.set i x.1).set j y.1).set l z.1) := by simp only [e0, b0, g0, sPar3, x_bind, x_some]
def retS (i : Nat) (δ : List Sl) : Option Sl → Option (Fl × List Sl)
  | some (.im d) => some (.rt (.im d), δ)
  | some (.bx t ds) => some (.rt (.bx t ds), δ.set i .no)
  | some (.fz ds) => some (.rt (.fz ds), δ)
  | some (.raw v) => some (.rt (.raw v), δ)
  | _ => none
theorem ev_sRetV (i : Nat) : Ev (sRetV i δ) U = Ev (retS i δ δ[i]?) U := by
  unfold sRetV sRet dN
  generalize δ[i]? = o
  match o with
  | none => rfl
  | some .no => rfl
  | some (.im _) => rfl
  | some (.bx _ _) => rfl
  | some (.fz _) => rfl
  | some (.raw _) => rfl
  | some (.mo _) => rfl
theorem retS_im (i : Nat) (d : PyData) : retS i δ (some (.im d)) = some (.rt (.im d), δ) := rfl
theorem retS_ow (i : Nat) (t : Bt) (d : List PyData) : retS i δ (some (.bx t d)) = some (.rt (.bx t d), δ.set i .no) := rfl
theorem retS_fz (i : Nat) (d : List PyData) : retS i δ (some (.fz d)) = some (.rt (.fz d), δ) := rfl
theorem retS_raw (i : Nat) (d : V) : retS i δ (some (.raw d)) = some (.rt (.raw d), δ) := rfl
/-! ### targets -/
variable {W : List Sl → Prop}
theorem ev_tgN (i : Nat) (d : PyData) : Ev (tgN i d δ) W = W (δ.set i (.im d)) := x_some _
theorem ev_tgT (t : List PyData → List Sl → Option (List Sl)) (ds : List PyData) : Ev (tgT t (.tuple ds) δ) W = Ev (t ds δ) W := rfl
theorem ev_tgNil : Ev (tgNil [] δ) W = W δ := x_some _
theorem ev_tgCons (t : Tg) (u : List PyData → List Sl → Option (List Sl)) (d : PyData) (ds : List PyData) : Ev (tgCons t u (d :: ds) δ) W = Ev (t d δ) fun δ1 => Ev (u ds δ1) W := by simp only [e0, b0, g0, tgCons, x_bind]
/-! ### functions, calls -/
def kRet (P : List Nat) (as : List Sl) (S : Sl × List Sl → Prop) : Fl → List Sl → Prop
  | .rt r, δ => Gd (okR P δ r = true) (Ev (back P 0 as δ) fun b => S (r, b))
  | .nx, δ => Ev (back P 0 as δ) fun b => S (.im .none, b)
  | _, _ => False
theorem ev_fnD (P : List Nat) (m : Nat) (A : Sm) (as : List Sl) : Ev (fnD P m A as) S = Ev (A (as ++ List.replicate m .no)) fun x => kRet P as S x.1 x.2 := by
  simp only [e0, b0, g0, fnD, x_bind]
  refine congrArg _ (funext fun x => ?_)
  obtain ⟨f, d⟩ := x
  cases f <;> simp only [kRet, e0, b0, g0, x_bind, x_some, x_none, x_gd]
  exact propext ⟨fun h => h.2, fun h => ⟨rfl, h⟩⟩
theorem kRet_rt (P : List Nat) (as : List Sl) (r : Sl) : kRet P as S (.rt r) δ = Gd (okR P δ r = true) (Ev (back P 0 as δ) fun b => S (r, b)) := rfl
theorem kRet_nx (P : List Nat) (as : List Sl) : kRet P as S .nx δ = Ev (back P 0 as δ) fun b => S (.im .none, b) := rfl
theorem okR_im (P : List Nat) (d : PyData) : okR P δ (.im d) = true := rfl
theorem okR_fz (P : List Nat) (d : List PyData) : okR P δ (.fz d) = true := rfl
theorem okR_raw (P : List Nat) (d : V) : okR P δ (.raw d) = true := rfl
theorem okR_ow (P : List Nat) (t : Bt) (d : List PyData) : okR P δ (.bx t d) = P.all fun i => isOw δ[i]? := rfl
theorem isOw_ow (t : Bt) (d : List PyData) : isOw (some (.bx t d)) = true := rfl
theorem isOw_mo (x : Inf) : isOw (some (.mo x)) = true := rfl
theorem back_nil (P : List Nat) (i : Nat) (ds : List Sl) : Ev (back P i [] ds) W = W [] := x_some _
def bkS : Sl → Option Sl
  | .no => none | .bx _ _ => none | .mo _ => none | a => some a
theorem back_cons (P : List Nat) (i : Nat) (a d : Sl) (as ds : List Sl) : Ev (back P i (a :: as) (d :: ds)) W = Br (P.contains i = true) (Ev (back P (i + 1) as ds) fun r => W (d :: r)) (Ev (bkS a) fun a => Ev (back P (i + 1) as ds) fun r => W (a :: r)) := by
  simp only [e0, b0, g0, back, x_ite, x_bind, x_some]
  cases a <;> simp only [bkS, x_none, x_some]
theorem bkS_im (d : PyData) : bkS (.im d) = some (.im d) := rfl
theorem bkS_fz (d : List PyData) : bkS (.fz d) = some (.fz d) := rfl
theorem bkS_raw (d : V) : bkS (.raw d) = some (.raw d) := rfl
theorem ev_dCall (f : Fn) (as : List Ag) : Ev (dCall f as δ) S = Ev (agE as δ) fun x => Ev (agS as x.1 x.2) fun ss => Ev (f ss) fun y => S (y.1, agB as y.2 x.2) := by simp only [e0, b0, g0, dCall, x_bind, x_some]
variable {Z : List (Option Sl) × List Sl → Prop}
def owS : Option Sl → Option (List PyData)
  | some (.bx .l ds) => some ds
  | _ => none
theorem owS_ow (ds : List PyData) : owS (some (.bx .l ds)) = some ds := rfl
def ioS : Option Sl → Option Sl
  | some (.bx t ds) => some (.bx t ds)
  | some (.mo x) => some (.mo x)
  | _ => none
theorem ioS_bx (t : Bt) (ds : List PyData) : ioS (some (.bx t ds)) = some (.bx t ds) := rfl
theorem ioS_mo (x : Inf) : ioS (some (.mo x)) = some (.mo x) := rfl
theorem ev_agNil : Ev (agE [] δ) Z = Z ([], δ) := x_some _
theorem ev_agIo (i : Nat) (r : List Ag) : Ev (agE (.io i :: r) δ) Z = Ev (ioS δ[i]?) fun _ => Ev (agE r δ) fun x => Z (none :: x.1, x.2) := by
  simp only [e0, b0, g0, agE, x_bind, x_some]
  generalize δ[i]? = o
  match o with
  | none => simp only [e0, b0, g0, ioS, x_none]
  | some .no => simp only [e0, b0, g0, ioS, x_none]
  | some (.im _) => simp only [e0, b0, g0, ioS, x_none]
  | some (.bx _ _) => simp only [e0, b0, g0, ioS, x_some]
  | some (.fz _) => simp only [e0, b0, g0, ioS, x_none]
  | some (.raw _) => simp only [e0, b0, g0, ioS, x_none]
  | some (.mo _) => simp only [e0, b0, g0, ioS, x_some]
theorem ev_agEx (F : Ex) (r : List Ag) : Ev (agE (.ex F :: r) δ) Z = Ev (F δ) fun x => Ev x.1.arg fun s => Ev (agE r x.2) fun y => Z (some s :: y.1, y.2) := by simp only [e0, b0, g0, agE, x_bind, x_some]
theorem ev_agSNil : Ev (agS [] [] δ) W = W [] := x_some _
theorem ev_agSIo (i : Nat) (r : List Ag) (ps : List (Option Sl)) : Ev (agS (.io i :: r) (none :: ps) δ) W = Ev (ioS δ[i]?) fun s => Ev (agS r ps δ) fun t => W (s :: t) := by
  simp only [e0, b0, g0, agS, x_bind, x_some]
  generalize δ[i]? = o
  match o with
  | none => simp only [e0, b0, g0, ioS, x_none]
  | some .no => simp only [e0, b0, g0, ioS, x_none]
  | some (.im _) => simp only [e0, b0, g0, ioS, x_none]
  | some (.bx _ _) => simp only [e0, b0, g0, ioS, x_some]
  | some (.fz _) => simp only [e0, b0, g0, ioS, x_none]
  | some (.raw _) => simp only [e0, b0, g0, ioS, x_none]
  | some (.mo _) => simp only [e0, b0, g0, ioS, x_some]
theorem ev_agSEx (F : Ex) (r : List Ag) (s : Sl) (ps : List (Option Sl)) : Ev (agS (.ex F :: r) (some s :: ps) δ) W = Ev (agS r ps δ) fun t => W (s :: t) := by simp only [e0, b0, g0, agS, x_bind, x_some]
theorem agB_io (i : Nat) (r : List Ag) (s : Sl) (ss : List Sl) : agB (.io i :: r) (s :: ss) δ = agB r ss (δ.set i s) := rfl
theorem agB_ex (F : Ex) (r : List Ag) (s : Sl) (ss : List Sl) : agB (.ex F :: r) (s :: ss) δ = agB r ss δ := rfl
theorem agB_nil : agB [] [] δ = δ := rfl
/-- a call under its parameters' names, all of them given in order of `ix` -/
def allPlain (ss : List Sl) : Bool := ss.all fun s => match s with | .bx _ _ => false | .no => false | _ => true
def noOw (ss : List Sl) : Bool := ss.all fun s => match s with | .bx _ _ => false | _ => true
theorem ev_fnP (ix : List Nat) (f : Fn) (ss : List Sl) : Ev (fnP ix f ss) S = Gd (ix.length = ss.length ∧ (∀ i ∈ ix, i < ss.length) ∧ allPlain ss = true) (Ev (f (ix.filterMap fun i => ss[i]?)) fun y => Gd (noOw y.2 = true) (S (y.1, ss))) := by
  simp only [e0, b0, g0]
  unfold fnP allPlain noOw
  rw [x_gd, x_bind]
  simp only [e0, b0, g0, x_gd, x_some]
  all_goals rfl
/-! ### displays -/
variable {Y : List PyData × List Sl → Prop}
theorem ev_elNil : Ev (elE [] δ) Y = Y ([], δ) := x_some _
theorem ev_elOne (F : Ex) (r : List El) : Ev (elE (.one F :: r) δ) Y = Ev (F δ) fun x => Ev x.1.sh fun d => Ev (elE r x.2) fun y => Y (d :: y.1, y.2) := by simp only [e0, b0, g0, elE, x_bind, x_some]
def itemsD : PyData → Option (List PyData)
  | .list ds => some ds
  | .tuple ds => some ds
  | _ => none
theorem itemsD_l (ds : List PyData) : itemsD (.list ds) = some ds := rfl
theorem itemsD_t (ds : List PyData) : itemsD (.tuple ds) = some ds := rfl
theorem ev_elStar (F : Ex) (r : List El) : Ev (elE (.star F :: r) δ) Y = Ev (F δ) fun x => Ev x.1.sh fun d => Ev (itemsD d) fun ds => Ev (elE r x.2) fun y => Y (ds ++ y.1, y.2) := by
  simp only [e0, b0, g0, elE, x_bind, x_some]
  refine congrArg _ (funext fun x => congrArg _ (funext fun d => ?_))
  cases d <;> simp only [e0, b0, g0, itemsD, x_none, x_some]
theorem ev_dLst (as : List El) : Ev (dLst as δ) S = Ev (elE as δ) fun x => Gd (x.1.length ≤ LINE) (S (.bx .l x.1, x.2)) := by simp only [e0, b0, g0, dLst, x_bind, x_gd, x_some]
theorem ev_dTup (as : List El) : Ev (dTup as δ) S = Ev (elE as δ) fun x => Gd (x.1.length ≤ LINE) (S (.im (.tuple x.1), x.2)) := by simp only [e0, b0, g0, dTup, x_bind, x_gd, x_some]
def fzS : Option Sl → Option (List PyData)
  | some (.fz ds) => some ds
  | _ => none
theorem fzS_fz (ds : List PyData) : fzS (some (.fz ds)) = some ds := rfl
theorem ev_dLenF (i : Nat) : Ev (dLenF i δ) S = Ev (fzS δ[i]?) fun ds => S (.im (.int ds.length), δ) := by
  unfold dLenF
  generalize δ[i]? = o
  match o with
  | none => simp only [e0, b0, g0, fzS, x_none]
  | some .no => simp only [e0, b0, g0, fzS, x_none]
  | some (.im _) => simp only [e0, b0, g0, fzS, x_none]
  | some (.bx _ _) => simp only [e0, b0, g0, fzS, x_none]
  | some (.fz _) => simp only [e0, b0, g0, fzS, x_some]
  | some (.raw _) => simp only [e0, b0, g0, fzS, x_none]
  | some (.mo _) => simp only [e0, b0, g0, fzS, x_none]
theorem ev_dIxF (i : Nat) (F : Ex) : Ev (dIxF i F δ) S = Ev (fzS δ[i]?) fun ds => Ev (F δ) fun x => Ev (intOf x.1) fun j => Ev (fzS x.2[i]?) fun _ => Ev (atI ds j) fun d => S (.im d, x.2) := by
  simp only [e0, b0, g0]
  unfold dIxF
  rw [x_bind]
  show Ev0 (fzS δ[i]?) _ = _
  simp only [e0, b0, g0, x_bind, x_some]
  refine congrArg _ (funext fun ds => congrArg _ (funext fun x => congrArg _ (funext fun j => ?_)))
  generalize x.2[i]? = o
  match o with
  | none => simp only [e0, b0, g0, fzS, x_none]
  | some .no => simp only [e0, b0, g0, fzS, x_none]
  | some (.im _) => simp only [e0, b0, g0, fzS, x_none]
  | some (.bx _ _) => simp only [e0, b0, g0, fzS, x_none]
  | some (.fz _) => simp only [e0, b0, g0, fzS, x_some]
  | some (.raw _) => simp only [e0, b0, g0, fzS, x_none]
  | some (.mo _) => simp only [e0, b0, g0, fzS, x_none]
theorem ev_dSlF (i : Nat) (lo hi : Option Ex) : Ev (dSlF i lo hi δ) S = Ev (fzS δ[i]?) fun ds => Ev (prt lo δ) fun l => Ev (prt hi l.2) fun h => S (.bx .l (cutD ds l.1 h.1), h.2) := by
  simp only [e0, b0, g0]
  unfold dSlF
  rw [x_bind]
  show Ev0 (fzS δ[i]?) _ = _
  simp only [e0, b0, g0, x_bind, x_some]
variable {O : Option Int × List Sl → Prop}
theorem ev_prtN : Ev (prt none δ) O = O (none, δ) := x_some _
theorem ev_prtS (F : Ex) : Ev (prt (some F) δ) O = Ev (F δ) fun x => Ev (intOf x.1) fun j => O (some j, x.2) := by simp only [e0, b0, g0, prt, x_bind, x_some]
theorem ev_dSlN (i : Nat) (lo hi : Option Ex) : Ev (dSl (.nm i) lo hi δ) S = Ev (rdN δ i) fun _ => Ev (prt lo δ) fun l => Ev (prt hi l.2) fun h => Ev (rdN h.2 i) fun d => Ev (slD l.1 h.1 d) fun r => S (r, h.2) := by
  simp only [e0, b0, g0, dSl, Od.fst, Od.snd, x_bind, x_some]
theorem ev_dSlE (F : Ex) (lo hi : Option Ex) : Ev (dSl (.ex F) lo hi δ) S = Ev (F δ) fun x => Ev x.1.sh fun d => Ev (prt lo x.2) fun l => Ev (prt hi l.2) fun h => Ev (slD l.1 h.1 d) fun r => S (r, h.2) := by
  simp only [e0, b0, g0, dSl, Od.fst, Od.snd, x_bind, x_some]
/-! ### stores -/
theorem x_owBind {α : Type} (o : Option Sl) (f : Unit → Option α) {Q : α → Prop} : Ev0 ((match o with | some (.bx .l _) => some () | _ => none).bind f) Q = Ev0 (owS o) fun _ => Ev0 (f ()) Q := by
  match o with
  | none => simp only [owS, x_none, x_bind]
  | some .no => simp only [owS, x_none, x_bind]
  | some (.im _) => simp only [owS, x_none, x_bind]
  | some (.bx .l _) => simp only [owS, x_some, x_bind]
  | some (.bx (.o _) _) => simp only [owS, x_none, x_bind]
  | some (.bx (.d _) _) => simp only [owS, x_none, x_bind]
  | some (.fz _) => simp only [owS, x_none, x_bind]
  | some (.raw _) => simp only [owS, x_none, x_bind]
  | some (.mo _) => simp only [owS, x_none, x_bind]
theorem ev_dApp (i : Nat) (F : Ex) : Ev (dApp i F δ) S = Ev (owS δ[i]?) fun _ => Ev (F δ) fun x => Ev x.1.sh fun d => Ev (owS x.2[i]?) fun ds => Gd (ds.length < LINE) (S (.im .none, x.2.set i (.bx .l (ds ++ [d])))) := by
  unfold dApp
  simp only [e0, b0, g0]
  refine (x_owBind _ _).trans ?_
  simp only [x_bind, x_gd, x_some]
  rfl
def listS : PyData → Option (List PyData)
  | .list ds => some ds
  | _ => none
theorem listS_l (ds : List PyData) : listS (.list ds) = some ds := rfl
theorem ev_dExt (i : Nat) (F : Ex) : Ev (dExt i F δ) S = Ev (owS δ[i]?) fun _ => Ev (F δ) fun x => Ev x.1.sh fun d => Ev (listS d) fun es => Ev (owS x.2[i]?) fun ds => Gd (ds.length + es.length ≤ LINE) (S (.im .none, x.2.set i (.bx .l (ds ++ es)))) := by
  unfold dExt
  simp only [e0, b0, g0]
  refine (x_owBind _ _).trans ?_
  simp only [x_bind, x_gd, x_some]
  rfl
theorem ev_sSto (i : Nat) (Fi F : Ex) : Ev (sSto i Fi F δ) U = Ev (F δ) fun x => Ev x.1.sh fun d => Ev (owS x.2[i]?) fun _ => Ev (Fi x.2) fun y => Ev (intOf y.1) fun j => Ev (owS y.2[i]?) fun ds => Ev (ixN ds.length j) fun k => U (.nx, y.2.set i (.bx .l (ds.set k d))) := by
  unfold sSto
  simp only [e0, b0, g0]
  rw [x_bind]
  refine congrArg _ (funext fun x => ?_)
  rw [x_bind]
  refine congrArg _ (funext fun d => ?_)
  refine (x_owBind _ _).trans ?_
  simp only [x_bind, x_gd, x_some]
  rfl
def iiS : Option Sl → Option Int
  | some (.im (.int n)) => some n
  | _ => none
theorem iiS_i (n : Int) : iiS (some (.im (.int n))) = some n := rfl
theorem ev_sAug (i : Nat) (g : Int → Int → Int) (F : Ex) : Ev (sAug i g F δ) U = Ev (iiS δ[i]?) fun n => Ev (F δ) fun x => Ev (intOf x.1) fun m => U (.nx, x.2.set i (.im (.int (g n m)))) := by
  simp only [e0, b0, g0]
  unfold sAug
  rw [x_bind]
  show Ev0 (iiS δ[i]?) _ = _
  simp only [e0, b0, g0, x_bind, x_some]
/-! ### lending -/
theorem ev_dLend (is : List Nat) (F : Ex) : Ev (dLend is F δ) S = Ev (F (lendIn is δ)) fun x => Gd (nolR x.1 = true) (Ev (unl is 0 δ x.2) fun δn => S (x.1, δn)) := by
  simp only [e0, b0, g0, dLend, x_bind, x_gd, x_some]
def frzS (i : Nat) (δ : List Sl) : Option Sl → List Sl
  | some (.bx .l ds) => δ.set i (.im (.list ds))
  | _ => δ
theorem frz1_eq (i : Nat) (δ : List Sl) : frz1 i δ = frzS i δ δ[i]? := by unfold frz1 frzS; rfl
theorem frzS_ow (i : Nat) (ds : List PyData) : frzS i δ (some (.bx .l ds)) = δ.set i (.im (.list ds)) := rfl
theorem frzS_im (i : Nat) (d : PyData) : frzS i δ (some (.im d)) = δ := rfl
theorem frzS_no (i : Nat) : frzS i δ (some .no) = δ := rfl
theorem lendIn_nil : lendIn [] δ = δ := rfl
theorem lendIn_cons (i : Nat) (is : List Nat) : lendIn (i :: is) δ = lendIn is (frz1 i δ) := rfl
theorem unl_nil (is : List Nat) (k : Nat) : Ev (unl is k [] []) W = W [] := x_some _
theorem unl_cons (is : List Nat) (k : Nat) (a b : Sl) (as bs : List Sl) : Ev (unl is k (a :: as) (b :: bs)) W = Ev (unl1 (is.contains k) a b) fun s => Ev (unl is (k + 1) as bs) fun r => W (s :: r) := by
  simp only [e0, b0, g0, unl, x_bind, x_some]
theorem unl1_im (b : Bool) (d : PyData) (x : Sl) : unl1 b (.im d) x = some (.im d) := rfl
theorem unl1_no (b : Bool) (x : Sl) : unl1 b .no x = some .no := rfl
theorem unl1_fz (b : Bool) (d : List PyData) (x : Sl) : unl1 b (.fz d) x = some (.fz d) := rfl
theorem unl1_raw (b : Bool) (d : V) (x : Sl) : unl1 b (.raw d) x = some (.raw d) := rfl
theorem unl1_owt (ds : List PyData) (x : Sl) : unl1 true (.bx .l ds) x = some (.bx .l ds) := rfl
theorem unl1_owo (ds es : List PyData) {S : Sl → Prop} : Ev (unl1 false (.bx .l ds) (.bx .l es)) S = Gd (nolAll es = true) (S (.bx .l es)) := by
  show Ev (if false = true then some (Sl.bx .l ds) else if nolAll es = true then some (Sl.bx .l es) else none) S = _
  rw [if_neg Bool.false_ne_true, ev_gd, ev_some]
theorem unl1_owi (ds es : List PyData) {S : Sl → Prop} : Ev (unl1 false (.bx .l ds) (.im (.list es))) S = Gd (nolAll es = true) (S (.im (.list es))) := by
  show Ev (if false = true then some (Sl.bx .l ds) else if nolAll es = true then some (Sl.im (.list es)) else none) S = _
  rw [if_neg Bool.false_ne_true, ev_gd, ev_some]
theorem nolR_im (d : PyData) : nolR (.im d) = nolD d := rfl
theorem nolR_ow (d : List PyData) : nolR (.bx .l d) = nolAll d := rfl
theorem nolD_int (i : Int) : nolD (.int i) = true := by simp [nolD]
theorem nolD_str (i : Str) : nolD (.str i) = true := by simp [nolD]
theorem nolD_bool (i : Bool) : nolD (.bool i) = true := by simp [nolD]
theorem nolD_none : nolD .none = true := by simp [nolD]
theorem nolD_tup (l : List PyData) : nolD (.tuple l) = nolAll l := by simp [nolD]
theorem nolAll_nil : nolAll [] = true := by simp [nolAll]
theorem nolAll_cons (d : PyData) (l : List PyData) : nolAll (d :: l) = (nolD d && nolAll l) := by simp [nolAll]
theorem nolAll_of {l : List PyData} (h : ∀ d ∈ l, nolD d = true) : nolAll l = true := by
  induction l with
  | nil => simp [nolAll]
  | cons d l ih => simp only [nolAll, Bool.and_eq_true]; exact ⟨h d (List.mem_cons_self ..), ih fun e he => h e (List.mem_cons_of_mem _ he)⟩
theorem nolAll_ints (l : List Int) : nolAll (l.map PyData.int) = true := nolAll_of fun d hd => by
  obtain ⟨i, _, rfl⟩ := List.mem_map.mp hd
  exact nolD_int i
theorem nolAll_app (a b : List PyData) : nolAll (a ++ b) = (nolAll a && nolAll b) := by
  induction a with
  | nil => simp [nolAll]
  | cons d a ih => simp only [List.cons_append, nolAll, ih, Bool.and_assoc]
/-! ### walks -/
theorem ev_itSeq (F : Ex) : Ev (itSeq F δ) Y = Ev (F δ) fun x => Ev x.1.sh fun d => Ev (seqD d) fun ds => Y (ds, x.2) := by simp only [e0, b0, g0, itSeq, x_bind, x_some]
theorem ev_itR1 (F : Ex) : Ev (itR1 F δ) Y = Ev (F δ) fun x => Ev (intOf x.1) fun j => Gd (-P62 ≤ j ∧ j < P62) (Y (rangeD 0 1 j.toNat, x.2)) := by simp only [e0, b0, g0, itR1, x_bind, x_gd, x_some]
theorem ev_itR2 (F G : Ex) : Ev (itR2 F G δ) Y = Ev (F δ) fun x => Ev (intOf x.1) fun i => Ev (G x.2) fun y => Ev (intOf y.1) fun j => Gd (-P62 ≤ i ∧ i < P62 ∧ -P62 ≤ j ∧ j < P62) (Y (rangeD i 1 (j - i).toNat, y.2)) := by simp only [e0, b0, g0, itR2, x_bind, x_gd, x_some]
theorem ev_itR3 (F G H : Ex) : Ev (itR3 F G H δ) Y = Ev (F δ) fun x => Ev (intOf x.1) fun i => Ev (G x.2) fun y => Ev (intOf y.1) fun j => Ev (H y.2) fun z => Ev (intOf z.1) fun c => Ev (r3D i j c) fun ds => Y (ds, z.2) := by simp only [e0, b0, g0, itR3, x_bind, x_some]
theorem ev_itEn (F : Ex) : Ev (itEn F δ) Y = Ev (F δ) fun x => Ev x.1.sh fun d => Ev (listS d) fun ds => Y (enumD ds, x.2) := by
  simp only [e0, b0, g0, itEn, x_bind, x_some]
  refine congrArg _ (funext fun x => congrArg _ (funext fun d => ?_))
  cases d <;> simp only [e0, b0, g0, listS, x_none, x_some]
theorem ev_itZip (F G : Ex) : Ev (itZip F G δ) Y = Ev (F δ) fun x => Ev x.1.sh fun d => Ev (G x.2) fun y => Ev y.1.sh fun e => Ev (listS d) fun ds => Ev (listS e) fun es => Y (zipD ds es, y.2) := by
  simp only [e0, b0, g0, itZip, x_bind, x_some]
  refine congrArg _ (funext fun x => congrArg _ (funext fun d => congrArg _ (funext fun y => congrArg _ (funext fun e => ?_))))
  cases d <;> cases e <;> simp only [e0, b0, g0, listS, x_none, x_some]
theorem ev_sFor (I : It') (tg : Tg) (A : Sm) : Ev (sFor I tg A δ) U = Ev (I δ) fun x => Ev (loopD tg A x.1 x.2) U := by simp only [e0, b0, g0, sFor, x_bind]
def kLoop (N : List Sl → Prop) (U : Fl × List Sl → Prop) : Fl → List Sl → Prop
  | .nx, δ => N δ
  | .ct, δ => N δ
  | .bk, δ => U (.nx, δ)
  | .rt r, δ => U (.rt r, δ)
theorem kLoop_nx (N : List Sl → Prop) : kLoop N U .nx δ = N δ := rfl
theorem kLoop_ct (N : List Sl → Prop) : kLoop N U .ct δ = N δ := rfl
theorem kLoop_bk (N : List Sl → Prop) : kLoop N U .bk δ = U (.nx, δ) := rfl
theorem kLoop_rt (N : List Sl → Prop) (r : Sl) : kLoop N U (.rt r) δ = U (.rt r, δ) := rfl
theorem ev_loopNil (tg : Tg) (A : Sm) : Ev (loopD tg A [] δ) U = U (.nx, δ) := x_some _
theorem ev_loopCons (tg : Tg) (A : Sm) (d : PyData) (ds : List PyData) : Ev (loopD tg A (d :: ds) δ) U = Ev (tg d δ) fun δ1 => Ev (A δ1) fun x => kLoop (fun δ2 => Ev (loopD tg A ds δ2) U) U x.1 x.2 := by
  simp only [e0, b0, g0]
  rw [loopD, x_bind]
  refine congrArg _ (funext fun δ1 => ?_)
  rw [x_bind]
  refine congrArg _ (funext fun x => ?_)
  obtain ⟨f, d⟩ := x
  cases f <;> simp only [e0, b0, g0, kLoop, x_some]
/-- a loop, by what holds ahead of every turn -/
theorem ev_loop {tg : Tg} {A : Sm} (Inv : Nat → List Sl → Prop) : ∀ {ds : List PyData} {k : Nat} {δ : List Sl}, Inv k δ →
    (∀ (i : Nat) (d : PyData) (δ : List Sl), ds[i]? = some d → Inv (k + i) δ → Ev (tg d δ) fun δ1 => Ev (A δ1) fun x => kLoop (Inv (k + i + 1)) U x.1 x.2) →
    (∀ δ, Inv (k + ds.length) δ → U (.nx, δ)) → Ev (loopD tg A ds δ) U
  | [], k, δ, h, _, e => by rw [ev_loopNil]; exact e δ h
  | d :: ds, k, δ, h, s, e => by
    rw [ev_loopCons]
    refine (s 0 d δ rfl h).mono fun δ1 g => g.mono fun x g => ?_
    have go : ∀ δ2, Inv (k + 1) δ2 → Ev (loopD tg A ds δ2) U := fun δ2 g => ev_loop Inv g (fun i d' δ' e' h' => by
        have := s (i + 1) d' δ' (by simpa using e') (by rw [show k + (i + 1) = k + 1 + i by omega]; exact h')
        rw [show k + (i + 1) + 1 = k + 1 + i + 1 by omega] at this; exact this) (fun δ' h' => e δ' (by rw [List.length_cons, show k + (ds.length + 1) = k + 1 + ds.length by omega]; exact h'))
    obtain ⟨f, d2⟩ := x
    cases f with
    | nx => exact go _ g
    | ct => exact go _ g
    | bk => exact g
    | rt r => exact g
/-! ### lists made by a walk -/
theorem ev_dLc' (n : Nat) (I : It') (tg : Tg) (c : Tt) (F : Ex) (vs : List Nat) : Ev (dLc' n I tg c F vs δ) S = Gd (δ.length ≤ n) (Ev (I δ) fun x => Gd (calmD x.2 vs = true) (Ev (lcD tg c F vs x.1 [] x.2) fun y => S (.bx .l y.1, unwipe x.2 y.2 vs))) := by
  unfold dLc' dLc
  simp only [e0, b0, g0, x_gd, x_bind, x_some]
theorem ev_lcNil (tg : Tg) (c : Tt) (F : Ex) (vs : List Nat) (acc : List PyData) : Ev (lcD tg c F vs [] acc δ) Y = Y (acc, δ) := x_some _
theorem ev_lcCons (tg : Tg) (c : Tt) (F : Ex) (vs : List Nat) (d : PyData) (ds acc : List PyData) : Ev (lcD tg c F vs (d :: ds) acc δ) Y = Ev (tg d (wipeD δ vs)) fun δ1 => Ev (c δ1) fun x => Br (x.1 = true) (Ev (F x.2) fun y => Ev y.1.sh fun v => Gd (acc.length < LINE) (Ev (lcD tg c F vs ds (acc ++ [v]) y.2) Y)) (Ev (lcD tg c F vs ds acc x.2) Y) := by
  simp only [e0, b0, g0]
  rw [lcD]
  simp only [e0, b0, g0, x_bind, x_ite, x_gd, x_none]
  refine congrArg _ (funext fun δ1 => congrArg _ (funext fun x => ?_))
  refine congrArg (fun p => Br _ p _) (congrArg _ (funext fun y => congrArg _ (funext fun v => ?_)))
  exact propext ⟨fun g => (Classical.em _).elim (fun h => ⟨h, g.1 h⟩) fun h => (g.2 h).elim, fun g => ⟨fun _ => g.2, fun h => (h g.1).elim⟩⟩
theorem ev_lc {tg : Tg} {c : Tt} {F : Ex} {vs : List Nat} (Inv : Nat → List PyData → List Sl → Prop) : ∀ {ds : List PyData} {k : Nat} {acc : List PyData} {δ : List Sl}, Inv k acc δ → acc.length + ds.length ≤ LINE →
    (∀ (i : Nat) (d : PyData) (acc : List PyData) (δ : List Sl), ds[i]? = some d → Inv (k + i) acc δ → Ev (tg d (wipeD δ vs)) fun δ1 => Ev (c δ1) fun x => Br (x.1 = true) (Ev (F x.2) fun y => Ev y.1.sh fun v => Inv (k + i + 1) (acc ++ [v]) y.2) (Inv (k + i + 1) acc x.2)) →
    (∀ acc δ, Inv (k + ds.length) acc δ → Y (acc, δ)) → Ev (lcD tg c F vs ds acc δ) Y
  | [], k, acc, δ, h, _, _, e => by rw [ev_lcNil]; exact e acc δ h
  | d :: ds, k, acc, δ, h, hl, s, e => by
    rw [ev_lcCons]
    rw [List.length_cons] at hl
    refine (s 0 d acc δ rfl h).mono fun δ1 g => g.mono fun x g => ?_
    have go : ∀ acc2 δ2, acc2.length ≤ acc.length + 1 → Inv (k + 1) acc2 δ2 → Ev (lcD tg c F vs ds acc2 δ2) Y := fun acc2 δ2 hl2 g => ev_lc Inv g (by omega) (fun i d' a' δ' e' h' => by
        have := s (i + 1) d' a' δ' (by simpa using e') (by rw [show k + (i + 1) = k + 1 + i by omega]; exact h')
        rw [show k + (i + 1) + 1 = k + 1 + i + 1 by omega] at this; exact this) (fun a' δ' h' => e a' δ' (by rw [List.length_cons, show k + (ds.length + 1) = k + 1 + ds.length by omega]; exact h'))
    refine ⟨fun hx => (g.1 hx).mono fun y g => g.mono fun v g => ⟨by omega, go _ _ (by simp) g⟩, fun hx => go _ _ (by omega) (g.2 hx)⟩
end
/-! ### values -/
def MulOk (i j : Int) : Prop := i.natAbs.log2 + j.natAbs.log2 < 1000000
def FdivOk (j : Int) : Prop := 0 < j ∧ j.natAbs.log2 < 9000
def PowOk (i j : Int) : Prop := 0 ≤ j ∧ (i.natAbs.log2 + 1 : Int) * j ≤ 2 ^ 27
def StrOk (i : Int) : Prop := i.natAbs.log2 < 1920
def DmOk (i j : Int) : Prop := 0 < j ∧ (i.natAbs.log2 + 1 : Nat) ≤ j.natAbs.log2 + 4000
section
variable {S : Sl → Prop} {B : Bool → Prop}
theorem v_add (i j : Int) : addD (.int i) (.int j) = some (.im (.int (i + j))) := rfl
theorem v_adds (a b : Str) : Ev (addD (.str a) (.str b)) S = Gd (a.length + b.length ≤ LINE) (S (.im (.str (a ++ b)))) := by simp only [e0, b0, g0, addD, x_gd, x_some]
theorem v_addl (a b : List PyData) : Ev (addD (.list a) (.list b)) S = Gd (a.length + b.length ≤ LINE) (S (.bx .l (a ++ b))) := by simp only [e0, b0, g0, addD, x_gd, x_some]
theorem v_addt (a b : List PyData) : Ev (addD (.tuple a) (.tuple b)) S = Gd (a.length + b.length ≤ LINE) (S (.im (.tuple (a ++ b)))) := by simp only [e0, b0, g0, addD, x_gd, x_some]
theorem v_sub (i j : Int) : subD (.int i) (.int j) = some (.im (.int (i - j))) := rfl
theorem v_mul (i j : Int) : Ev (mulD (.int i) (.int j)) S = Gd (MulOk i j) (S (.im (.int (i * j)))) := by simp only [e0, b0, g0, MulOk, mulD, x_gd, x_some]
theorem v_mull (a : List PyData) (k : Int) : Ev (mulD (.list a) (.int k)) S = Gd (-(2 ^ 63) ≤ k ∧ k < 2 ^ 63 ∧ a.length * k.toNat ≤ LINE) (S (.bx .l (List.replicate k.toNat a).flatten)) := by simp only [e0, b0, g0, mulD, x_gd, x_some]
theorem v_muls (a : Str) (k : Int) : Ev (mulD (.str a) (.int k)) S = Gd (-(2 ^ 63) ≤ k ∧ k < 2 ^ 63 ∧ a.length * k.toNat ≤ LINE) (S (.im (.str (repS k.toNat a)))) := by simp only [e0, b0, g0, mulD, x_gd, x_some]
theorem v_mod (i j : Int) : Ev (modD (.int i) (.int j)) S = Gd (0 < j) (S (.im (.int (i % j)))) := by simp only [e0, b0, g0, modD, x_gd, x_some]
theorem v_fdiv (i j : Int) : Ev (fdivD (.int i) (.int j)) S = Gd (FdivOk j) (S (.im (.int (i / j)))) := by simp only [e0, b0, g0, FdivOk, fdivD, x_gd, x_some]
theorem v_pow (i j : Int) : Ev (powD (.int i) (.int j)) S = Gd (PowOk i j) (S (.im (.int (i ^ j.toNat)))) := by simp only [e0, b0, g0, PowOk, powD, x_gd, x_some]
theorem v_neg (i : Int) : negD (.int i) = some (.im (.int (-i))) := rfl
theorem v_bl (f : PyData → PyData → Option Bool) (d e : PyData) : Ev (blD f d e) S = Ev (f d e) fun b => S (.im (.bool b)) := by simp only [e0, b0, g0, blD, x_bind, x_some]
theorem v_nb (f : PyData → PyData → Option Bool) (d e : PyData) : Ev (nbD f d e) S = Ev (f d e) fun b => S (.im (.bool (!b))) := by simp only [e0, b0, g0, nbD, x_bind, x_some]
theorem v_lt (i j : Int) : ltD (.int i) (.int j) = some (decide (i < j)) := rfl
theorem v_le (i j : Int) : leD (.int i) (.int j) = some (decide (i ≤ j)) := rfl
theorem v_gt (i j : Int) : gtD (.int i) (.int j) = some (decide (j < i)) := rfl
theorem v_ge (i j : Int) : geD (.int i) (.int j) = some (decide (j ≤ i)) := rfl
theorem v_ne (d e : PyData) : Ev (neD d e) B = Ev (eqD d e) fun b => B (!b) := by simp only [e0, b0, g0, neD, x_bind, x_some]
theorem v_isn (d e : PyData) : Ev (isnD d e) B = Ev (isD d e) fun b => B (!b) := by simp only [e0, b0, g0, isnD, x_bind, x_some]
theorem v_eqi (i j : Int) : eqD (.int i) (.int j) = some (decide (i = j)) := rfl
theorem v_eqs (i j : Str) : eqD (.str i) (.str j) = some (decide (i = j)) := rfl
theorem v_eqb (i j : Bool) : eqD (.bool i) (.bool j) = some (decide (i = j)) := rfl
theorem v_eqn : eqD .none .none = some true := rfl
theorem v_eqin (i : Int) : eqD (.int i) .none = some false := rfl
theorem v_eqni (i : Int) : eqD .none (.int i) = some false := rfl
theorem v_eqll (a b : List PyData) : Ev (eqD (.list a) (.list b)) B = Gd (SeqAt.shaped (.list a) = true ∧ SeqAt.shaped (.list b) = true) (B (PyData.eqv (.list a) (.list b))) := by simp only [e0, b0, g0, eqD, x_gd, x_some]
theorem v_eqtt (a b : List PyData) : Ev (eqD (.tuple a) (.tuple b)) B = Gd (SeqAt.shaped (.tuple a) = true ∧ SeqAt.shaped (.tuple b) = true) (B (PyData.eqv (.tuple a) (.tuple b))) := by simp only [e0, b0, g0, eqD, x_gd, x_some]
theorem v_isnn : isD .none .none = some true := rfl
theorem v_isin (i : Int) : isD (.int i) .none = some false := rfl
theorem v_issn (i : Str) : isD (.str i) .none = some false := rfl
theorem v_isbn (i : Bool) : isD (.bool i) .none = some false := rfl
theorem v_isln (i : List PyData) : isD (.list i) .none = some false := rfl
theorem v_istn (i : List PyData) : isD (.tuple i) .none = some false := rfl
theorem v_isbb (i j : Bool) : isD (.bool i) (.bool j) = some (decide (i = j)) := rfl
theorem v_abs (i : Int) : absD (.int i) = some (.im (.int (if i < 0 then -i else i))) := rfl
theorem v_max (i j : Int) : max2D (.int i) (.int j) = some (.im (.int (if j > i then j else i))) := rfl
theorem v_min (i j : Int) : min2D (.int i) (.int j) = some (.im (.int (if j < i then j else i))) := rfl
theorem v_lenl (ds : List PyData) : lenD (.list ds) = some (.im (.int ds.length)) := rfl
theorem v_lent (ds : List PyData) : lenD (.tuple ds) = some (.im (.int ds.length)) := rfl
theorem v_lens (s : Str) : Ev (lenD (.str s)) S = Gd (s.length ≤ LINE) (S (.im (.int s.length))) := by simp only [e0, b0, g0, lenD, x_gd, x_some]
theorem v_inti (i : Int) : intD (.int i) = some (.im (.int i)) := rfl
theorem v_intb (i : Bool) : intD (.bool i) = some (.im (.int (if i then 1 else 0))) := rfl
theorem v_ints (s : Str) : Ev (intD (.str s)) S = Gd (s.length ≤ 640) (Ev (PySem.intText? s) fun n => S (.im (.int n))) := by simp only [e0, b0, g0, intD, x_gd, x_bind, x_some]
theorem v_stri (i : Int) : Ev (strD (.int i)) S = Gd (StrOk i) (S (.im (.str (toString i)))) := by simp only [e0, b0, g0, StrOk, strD, x_gd, x_some]
theorem v_strs (i : Str) : strD (.str i) = some (.im (.str i)) := rfl
theorem v_listl (ds : List PyData) : listD (.list ds) = some (.bx .l ds) := rfl
theorem v_listt (ds : List PyData) : listD (.tuple ds) = some (.bx .l ds) := rfl
theorem v_tupl (ds : List PyData) : tupD (.list ds) = some (.im (.tuple ds)) := rfl
theorem v_tupt (ds : List PyData) : tupD (.tuple ds) = some (.im (.tuple ds)) := rfl
theorem v_sum (ds : List PyData) : Ev (sumD (.list ds)) S = Ev (intsD ds) fun ns => S (.im (.int ns.sum)) := by simp only [e0, b0, g0, sumD, x_bind, x_some]
theorem v_maxl (ds : List PyData) : Ev (maxD (.list ds)) S = Ev (intsD ds) fun ns => Ev (maxL ns) fun m => S (.im (.int m)) := by simp only [e0, b0, g0, maxD, x_bind, x_some]
theorem v_minl (ds : List PyData) : Ev (minD (.list ds)) S = Ev (intsD ds) fun ns => Ev (minL ns) fun m => S (.im (.int m)) := by simp only [e0, b0, g0, minD, x_bind, x_some]
theorem v_sorted (ds : List PyData) : Ev (sortedD (.list ds)) S = Ev (intsD ds) fun ns => S (.bx .l ((sortI ns).map PyData.int)) := by simp only [e0, b0, g0, sortedD, x_bind, x_some]
theorem v_any (ds : List PyData) : Ev (anyD (.list ds)) S = Ev (boolsD ds) fun ns => S (.im (.bool (ns.any id))) := by simp only [e0, b0, g0, anyD, x_bind, x_some]
theorem v_all (ds : List PyData) : Ev (allD (.list ds)) S = Ev (boolsD ds) fun ns => S (.im (.bool (ns.all id))) := by simp only [e0, b0, g0, allD, x_bind, x_some]
theorem v_r3 (i j : Int) {Y : List PyData → Prop} : Ev (r3D i j (-1)) Y = Gd (-P62 ≤ i ∧ i < P62 ∧ -P62 ≤ j ∧ j < P62) (Y (rangeD i (-1) (i - j).toNat)) := by
  simp only [e0, b0, g0, r3D, true_and, x_gd, x_some]
theorem v_rev (ds : List PyData) : revD (.list ds) = some (.bx .l ds.reverse) := rfl
theorem v_divmod (i j : Int) : Ev (divmodD (.int i) (.int j)) S = Gd (DmOk i j) (S (.im (.tuple [.int (i / j), .int (i % j)]))) := by simp only [e0, b0, g0, DmOk, divmodD, x_gd, x_some]
theorem v_ixl (ds : List PyData) (i : Int) : Ev (ixD (.list ds) (.int i)) S = Ev (atI ds i) fun d => S (.im d) := by simp only [e0, b0, g0, ixD, x_bind, x_some]
theorem v_ixt (ds : List PyData) (i : Int) : Ev (ixD (.tuple ds) (.int i)) S = Ev (atI ds i) fun d => S (.im d) := by simp only [e0, b0, g0, ixD, x_bind, x_some]
theorem v_ixs (s : Str) (i : Int) : Ev (ixD (.str s) (.int i)) S = Gd (s.length ≤ LINE) (Ev (atI s.cps.toList i) fun c => S (.im (.str ⟨#[c]⟩))) := by simp only [e0, b0, g0, ixD, x_gd, x_bind, x_some]
theorem v_sll (lo hi : Option Int) (ds : List PyData) : slD lo hi (.list ds) = some (.bx .l (cutD ds lo hi)) := rfl
theorem v_slt (lo hi : Option Int) (ds : List PyData) : slD lo hi (.tuple ds) = some (.im (.tuple (cutD ds lo hi))) := rfl
theorem v_sls (lo hi : Option Int) (s : Str) : Ev (slD lo hi (.str s)) S = Gd (s.length ≤ LINE) (S (.im (.str (cutS s lo hi)))) := by simp only [e0, b0, g0, slD, x_gd, x_some]
theorem v_isi (T : String) (d : PyData) : Ev (isiD T d) S = Ev (clsD d) fun t => S (.im (.bool (kinD t T))) := by simp only [e0, b0, g0, isiD, x_bind, x_some]
theorem cls_none : clsD .none = some "NoneType" := rfl
theorem cls_bool (b : Bool) : clsD (.bool b) = some "bool" := rfl
theorem cls_int (i : Int) : clsD (.int i) = some "int" := rfl
theorem cls_str (i : Str) : clsD (.str i) = some "str" := rfl
theorem cls_list (i : List PyData) : clsD (.list i) = some "list" := rfl
theorem cls_tuple (i : List PyData) : clsD (.tuple i) = some "tuple" := rfl
theorem seqD_l (ds : List PyData) : seqD (.list ds) = some ds := rfl
theorem seqD_t (ds : List PyData) : seqD (.tuple ds) = some ds := rfl
theorem seqD_s (s : Str) : seqD (.str s) = some (charD s) := rfl
end
end CK
/-! sizes, places, texts -/
namespace CK
open PySem L2
theorem lg (i : Int) (h1 : -(10 ^ 250) < i) (h2 : i < 10 ^ 250) : i.natAbs.log2 < 900 := by
  have h3 : i.natAbs < 10 ^ 250 := by omega
  by_cases h0 : i.natAbs = 0
  · rw [h0]; decide
  · rw [Nat.log2_lt h0]
    exact Nat.lt_trans h3 (by decide +kernel)
theorem lgm {i j : Int} (h1 : -(10 ^ 250) < i) (h2 : i < 10 ^ 250) (h3 : -(10 ^ 250) < j) (h4 : j < 10 ^ 250) : MulOk i j := by
  unfold MulOk
  have := lg i h1 h2; have := lg j h3 h4; omega
theorem lgf {j : Int} (h3 : 0 < j) (h4 : j < 10 ^ 250) : FdivOk j := by
  have := lg j (by omega) h4; exact ⟨h3, by omega⟩
theorem lgp {i j : Int} (h1 : -(10 ^ 250) < i) (h2 : i < 10 ^ 250) (h3 : 0 ≤ j) (h4 : j ≤ 10000) : PowOk i j := by
  have := lg i h1 h2
  refine ⟨h3, Int.le_trans (Int.mul_le_mul_of_nonneg_right (show ((i.natAbs.log2 : Int) + 1) ≤ 900 by omega) h3) (by omega)⟩
theorem lgs {i : Int} (h1 : -(10 ^ 250) < i) (h2 : i < 10 ^ 250) : StrOk i := by
  unfold StrOk
  have := lg i h1 h2; omega
theorem lgv {i j : Int} (h1 : -(10 ^ 250) < i) (h2 : i < 10 ^ 250) (h3 : 0 < j) : DmOk i j := by
  have := lg i h1 h2; exact ⟨h3, by omega⟩
section
variable {α : Type} {Q : α → Prop}
theorem at0 (a : α) (l : List α) : atI (a :: l) 0 = some a := by
  unfold atI ixN; rw [if_pos (by omega), if_pos (by simp)]; rfl
theorem atn (a : α) (l : List α) (n : Nat) : atI (a :: l) ((n + 1 : Nat) : Int) = atI l (n : Int) := by
  unfold atI ixN
  rw [List.length_cons, if_pos (show (0:Int) ≤ ((n + 1 : Nat) : Int) by omega), if_pos (show (0:Int) ≤ (n : Int) by omega)]
  by_cases h : n < l.length
  · rw [if_pos (by omega), if_pos (by omega)]; simp
  · rw [if_neg (by omega), if_neg (by omega)]; rfl
theorem at1 (a b : α) (l : List α) : atI (a :: b :: l) 1 = some b := (atn a (b :: l) 0).trans (at0 b l)
theorem at2 (a b c : α) (l : List α) : atI (a :: b :: c :: l) 2 = some c := (atn a (b :: c :: l) 1).trans (at1 b c l)
theorem at3 (a b c d : α) (l : List α) : atI (a :: b :: c :: d :: l) 3 = some d := (atn a (b :: c :: d :: l) 2).trans (at2 b c d l)
theorem at4 (a b c d e : α) (l : List α) : atI (a :: b :: c :: d :: e :: l) 4 = some e := (atn a (b :: c :: d :: e :: l) 3).trans (at3 b c d e l)
theorem at5 (a b c d e f : α) (l : List α) : atI (a :: b :: c :: d :: e :: f :: l) 5 = some f := (atn a (b :: c :: d :: e :: f :: l) 4).trans (at4 b c d e f l)
theorem atneg (l : List α) (a : α) : atI (l ++ [a]) (-1) = some a := atI_last l a
theorem atin (l : List α) {i : Int} (h : 0 ≤ i) (h2 : i < l.length) : ∃ a, l[i.toNat]? = some a ∧ atI l i = some a := by
  have hl : i.toNat < l.length := by omega
  refine ⟨l[i.toNat], List.getElem?_eq_getElem hl, ?_⟩
  have := atI_nat (List.getElem?_eq_getElem hl)
  rwa [Int.toNat_of_nonneg h] at this
theorem ix0 (n : Nat) : ixN (n + 1) 0 = some 0 := by unfold ixN; rw [if_pos (by omega), if_pos (by omega)]; rfl
theorem ix1 (n : Nat) : ixN (n + 2) 1 = some 1 := by unfold ixN; rw [if_pos (by omega), if_pos (by omega)]; rfl
theorem ix2 (n : Nat) : ixN (n + 3) 2 = some 2 := by unfold ixN; rw [if_pos (by omega), if_pos (by omega)]; rfl
theorem ixin (n : Nat) {i : Int} (h : 0 ≤ i) (h2 : i < n) : ixN n i = some i.toNat := by unfold ixN; rw [if_pos h, if_pos h2]
end
theorem ev_loop0 {U : Fl × List Sl → Prop} {tg : Tg} {A : Sm} (Inv : Nat → List Sl → Prop) {ds : List PyData} {δ : List Sl} (h : Inv 0 δ)
    (s : ∀ (i : Nat) (d : PyData) (δ : List Sl), ds[i]? = some d → Inv i δ → Ev (tg d δ) fun δ1 => Ev (A δ1) fun x => kLoop (Inv (i + 1)) U x.1 x.2)
    (e : ∀ δ, Inv ds.length δ → U (.nx, δ)) : Ev (loopD tg A ds δ) U :=
  ev_loop Inv (k := 0) h (fun i d δ h1 h2 => by
    rw [Nat.zero_add] at h2 ⊢
    exact s i d δ h1 h2) (fun δ h1 => e δ (by simpa only [Nat.zero_add] using h1))
theorem ev_lc0 {Y : List PyData × List Sl → Prop} {tg : Tg} {c : Tt} {F : Ex} {vs : List Nat} (Inv : Nat → List PyData → List Sl → Prop) {ds : List PyData} {δ : List Sl} (h : Inv 0 [] δ) (hl : ds.length ≤ 16777216)
    (s : ∀ (i : Nat) (d : PyData) (acc : List PyData) (δ : List Sl), ds[i]? = some d → Inv i acc δ → Ev (tg d (wipeD δ vs)) fun δ1 => Ev (c δ1) fun x => Br (x.1 = true) (Ev (F x.2) fun y => Ev y.1.sh fun v => Inv (i + 1) (acc ++ [v]) y.2) (Inv (i + 1) acc x.2))
    (e : ∀ acc δ, Inv ds.length acc δ → Y (acc, δ)) : Ev (lcD tg c F vs ds [] δ) Y :=
  ev_lc Inv (k := 0) h (by simpa using hl) (fun i d a δ h1 h2 => by
    rw [Nat.zero_add] at h2 ⊢
    exact s i d a δ h1 h2) (fun a δ h1 => e a δ (by simpa only [Nat.zero_add] using h1))
/-! rows of numbers -/
theorem range_get {lo c : Int} {n i : Nat} {d : PyData} (h : (rangeD lo c n)[i]? = some d) : i < n ∧ d = .int (lo + (i : Int) * c) := by
  unfold rangeD at h
  rw [List.getElem?_map] at h
  obtain ⟨k, hk, rfl⟩ := Option.map_eq_some_iff.mp h
  obtain ⟨hi, e⟩ := List.getElem?_eq_some_iff.mp hk
  rw [List.getElem_range] at e
  subst e
  exact ⟨by simpa using hi, rfl⟩
theorem range_len (lo c : Int) (n : Nat) : (rangeD lo c n).length = n := by simp [rangeD]
/-! what can be shown, what can be likened -/
structure Nic (k n : Nat) (d : PyData) : Prop where
  s : PyData.showable d = true
  nd : PyData.hasDict d = false
  len : (PyData.shown d).length ≤ n
  dep : PyData.depth d ≤ k
  lay : PyData.canLay0 d = true
theorem len_int {i : Int} (h1 : -(10 ^ 250) < i) (h2 : i < 10 ^ 250) : (PySem.Str.ofString (toString i)).length ≤ 251 := by
  by_cases h : 0 ≤ i
  · exact Nat.le_trans (PyProof.Rows.toString_length_le h (k := 250) (by decide) h2) (by decide)
  · have e := PyProof.Rows.toString_neg (show i < 0 by omega)
    have h3 := PyProof.Rows.toString_length_le (v := 0 - i) (by omega) (k := 250) (by decide) (by omega)
    rw [e]
    rw [PyProof.Rows.ofString_len] at h3 ⊢
    rw [String.length_append]
    have : ("-" : String).length = 1 := rfl
    omega
theorem nic_int (i : Int) (h1 : -(10 ^ 250) < i) (h2 : i < 10 ^ 250) : Nic 0 260 (.int i) where
  s := by have : i.natAbs.log2 < 1920 := lgs h1 h2; simpa [PyData.showable] using this
  nd := by simp only [PyData.hasDict]
  len := by
    have := len_int h1 h2
    show (PySem.Str.ofString (toString i)).length ≤ _
    omega
  dep := by simp only [PyData.depth]; omega
  lay := by simp only [PyData.canLay0]
theorem nic_bool (i : Bool) : Nic 0 260 (.bool i) where
  s := by simp only [PyData.showable]
  nd := by simp only [PyData.hasDict]
  len := by cases i <;> decide
  dep := by simp only [PyData.depth]; omega
  lay := by simp only [PyData.canLay0]
theorem nic_none : Nic 0 260 .none where
  s := by simp only [PyData.showable]
  nd := by simp only [PyData.hasDict]
  len := by decide
  dep := by simp only [PyData.depth]; omega
  lay := by simp only [PyData.canLay0]
theorem Nic.mono {k n k' n' : Nat} {d : PyData} (h : Nic k n d) (hk : k ≤ k') (hn : n ≤ n') : Nic k' n' d := ⟨h.s, h.nd, Nat.le_trans h.len hn, Nat.le_trans h.dep hk, h.lay⟩
theorem nic_all {k n : Nat} : ∀ {ds : List PyData}, (∀ d ∈ ds, Nic k n d) → PyData.showableAll ds = true ∧ PyData.hasDictAll ds = false ∧ ((PyData.shownAll ds).map (·.length)).sum ≤ ds.length * n ∧ (PyData.shownAll ds).length = ds.length ∧ PyData.depthAll ds ≤ k ∧ PyData.canLayAll0 ds = true
  | [], _ => ⟨by simp only [PyData.showableAll], by simp only [PyData.hasDictAll], by simp [PyData.shownAll], by simp [PyData.shownAll], by simp only [PyData.depthAll]; omega, by simp only [PyData.canLayAll0]⟩
  | d :: ds, h => by
    obtain ⟨h1, h2, h3, h4, h5, h6⟩ := nic_all (ds := ds) fun e he => h e (List.mem_cons_of_mem _ he)
    have g := h d (List.mem_cons_self ..)
    refine ⟨by simp only [PyData.showableAll, g.s, h1, Bool.and_self], by simp only [PyData.hasDictAll, g.nd, h2, Bool.or_self], ?_, by simp only [PyData.shownAll, List.length_cons, h4], ?_, by simp only [PyData.canLayAll0, g.lay, h6, Bool.and_self]⟩
    · have := g.len
      simp only [PyData.shownAll, List.map_cons, List.sum_cons, List.length_cons, Nat.add_mul, Nat.one_mul]
      omega
    · have := g.dep
      simp only [PyData.depthAll]
      omega
theorem nic_list {k n : Nat} {ds : List PyData} (h : ∀ d ∈ ds, Nic k n d) : Nic (k + 1) (ds.length * (n + 2) + 3) (.list ds) := by
  obtain ⟨h1, h2, h3, h4, h5, h6⟩ := nic_all h
  refine ⟨by simpa only [PyData.showable] using h1, by simpa only [PyData.hasDict] using h2, ?_, by simp only [PyData.depth]; omega, by simpa only [PyData.canLay0] using h6⟩
  have := PySem.listText_len_le (PyData.shownAll ds)
  simp only [PyData.shown, Nat.mul_add]
  omega
theorem nic_tup {k n : Nat} {ds : List PyData} (h : ∀ d ∈ ds, Nic k n d) : Nic (k + 1) (ds.length * (n + 2) + 3) (.tuple ds) := by
  obtain ⟨h1, h2, h3, h4, h5, h6⟩ := nic_all h
  refine ⟨by simpa only [PyData.showable] using h1, by simpa only [PyData.hasDict] using h2, ?_, by simp only [PyData.depth]; omega, by simpa only [PyData.canLay0] using h6⟩
  have := PySem.tupleText_len_le (PyData.shownAll ds)
  simp only [PyData.shown, Nat.mul_add]
  omega
theorem nic_ints {ns : List Int} (h : ∀ i ∈ ns, -(10 ^ 250) < i ∧ i < 10 ^ 250) : ∀ d ∈ ns.map PyData.int, Nic 0 260 d := by
  intro d hd
  obtain ⟨i, hi, rfl⟩ := List.mem_map.mp hd
  exact nic_int i (h i hi).1 (h i hi).2
theorem all1 {P : PyData → Prop} {a : PyData} (h : P a) : ∀ d ∈ [a], P d := fun d hd => by cases hd with | head => exact h | tail _ h => cases h
theorem allc {P : PyData → Prop} {a : PyData} {l : List PyData} (h : P a) (h2 : ∀ d ∈ l, P d) : ∀ d ∈ a :: l, P d := fun d hd => by cases hd with | head => exact h | tail _ h => exact h2 d h
theorem alln {P : PyData → Prop} : ∀ d ∈ ([] : List PyData), P d := fun d hd => by cases hd
section
variable {S : Sl → Prop} {B : Bool → Prop} {k n k' n' : Nat} {d e : PyData}
theorem ev_repr (h : Nic k n d) (hk : k ≤ 64) (hn : n ≤ 16777216) (q : S (.im (.str (PyData.shown d)))) : Ev (reprD d) S := by
  unfold reprD
  rw [ev_gd, ev_some]
  exact ⟨⟨h.s, h.nd, Nat.le_trans h.len hn, Nat.le_trans h.dep hk⟩, q⟩
theorem Nic.shaped (h : Nic k n d) (hk : k ≤ 64) : SeqAt.shaped d = true := by
  unfold SeqAt.shaped
  rw [h.lay, Bool.true_and, decide_eq_true_eq]
  exact Nat.le_trans h.dep hk
theorem Nic.refl (h : Nic k n d) : PyData.eqv d d = true := SeqAt.eqv_refl d h.lay
end
/-! classes -/
theorem kin_int_int : kinD "int" "int" = true := by decide
theorem kin_int_bool : kinD "int" "bool" = false := by decide
theorem kin_int_str : kinD "int" "str" = false := by decide
theorem kin_int_list : kinD "int" "list" = false := by decide
theorem kin_int_tuple : kinD "int" "tuple" = false := by decide
theorem kin_bool_int : kinD "bool" "int" = true := by decide
theorem kin_bool_bool : kinD "bool" "bool" = true := by decide
theorem kin_bool_str : kinD "bool" "str" = false := by decide
theorem kin_bool_list : kinD "bool" "list" = false := by decide
theorem kin_bool_tuple : kinD "bool" "tuple" = false := by decide
theorem kin_str_int : kinD "str" "int" = false := by decide
theorem kin_str_bool : kinD "str" "bool" = false := by decide
theorem kin_str_str : kinD "str" "str" = true := by decide
theorem kin_str_list : kinD "str" "list" = false := by decide
theorem kin_str_tuple : kinD "str" "tuple" = false := by decide
theorem kin_list_int : kinD "list" "int" = false := by decide
theorem kin_list_bool : kinD "list" "bool" = false := by decide
theorem kin_list_str : kinD "list" "str" = false := by decide
theorem kin_list_list : kinD "list" "list" = true := by decide
theorem kin_list_tuple : kinD "list" "tuple" = false := by decide
theorem kin_tuple_int : kinD "tuple" "int" = false := by decide
theorem kin_tuple_bool : kinD "tuple" "bool" = false := by decide
theorem kin_tuple_str : kinD "tuple" "str" = false := by decide
theorem kin_tuple_list : kinD "tuple" "list" = false := by decide
theorem kin_tuple_tuple : kinD "tuple" "tuple" = true := by decide
theorem kin_NoneType_int : kinD "NoneType" "int" = false := by decide
theorem kin_NoneType_bool : kinD "NoneType" "bool" = false := by decide
theorem kin_NoneType_str : kinD "NoneType" "str" = false := by decide
theorem kin_NoneType_list : kinD "NoneType" "list" = false := by decide
theorem kin_NoneType_tuple : kinD "NoneType" "tuple" = false := by decide
end CK
/-! texts of digits -/
namespace CK
open PySem L2 SX
theorem dv_append (a b : List Nat) : NumText.digitsVal (a ++ b) = NumText.digitsVal a * 10 ^ b.length + NumText.digitsVal b := by
  have key : ∀ (b : List Nat) (x : Nat), b.foldl (fun acc c => acc * 10 + (c - 48)) x = x * 10 ^ b.length + NumText.digitsVal b := by
    intro b
    induction b with
    | nil => intro x; simp [NumText.digitsVal]
    | cons c r ih =>
      intro x
      rw [List.foldl_cons, ih, List.length_cons]
      show _ = _ + List.foldl _ 0 (c :: r)
      rw [List.foldl_cons, ih, Nat.pow_succ]
      rw [Nat.zero_mul, Nat.zero_add, Nat.add_mul, Nat.mul_assoc x, Nat.mul_comm 10, Nat.add_assoc]
  show (a ++ b).foldl _ 0 = _
  rw [List.foldl_append, key]; rfl
theorem dv_lt : ∀ {b : List Nat}, NumText.AllDigits b → NumText.digitsVal b < 10 ^ b.length
  | [], _ => by simp [NumText.digitsVal]
  | c :: r, h => by
    have h1 := dv_lt h.tail
    have h2 := h.head
    rw [show c :: r = [c] ++ r from rfl, dv_append, List.length_append, List.length_singleton, Nat.pow_add]
    have h3 : NumText.digitsVal [c] ≤ 9 := by show 0 * 10 + (c - 48) ≤ 9; omega
    have h4 := Nat.mul_le_mul_right (10 ^ r.length) h3
    have : 10 ^ 1 * 10 ^ r.length = 9 * 10 ^ r.length + 10 ^ r.length := by rw [Nat.pow_one]; omega
    omega
theorem dv_zero (n : Nat) : NumText.digitsVal (List.replicate n 48) = 0 := by
  induction n with
  | zero => rfl
  | succ n ih => rw [List.replicate_succ, show (48 :: List.replicate n 48) = [48] ++ List.replicate n 48 from rfl, dv_append, ih]; simp [NumText.digitsVal]
theorem dig_zero (n : Nat) : NumText.AllDigits (List.replicate n 48) := fun c hc => by rw [(List.mem_replicate.mp hc).2]; decide
theorem dig_app {a b : List Nat} (h : NumText.AllDigits a) (g : NumText.AllDigits b) : NumText.AllDigits (a ++ b) := fun c hc => (List.mem_append.mp hc).elim (h c) (g c)
theorem dig_drop {a : List Nat} (h : NumText.AllDigits a) (k : Nat) : NumText.AllDigits (a.drop k) := fun c hc => h c (List.mem_of_mem_drop hc)
theorem dig_take {a : List Nat} (h : NumText.AllDigits a) (k : Nat) : NumText.AllDigits (a.take k) := fun c hc => h c (List.mem_of_mem_take hc)
theorem int_dig {a : List Nat} (h : NumText.AllDigits a) (hne : a ≠ []) (hl : a.length ≤ 4300) : intText? (S a) = some ((NumText.digitsVal a : Nat) : Int) :=
  int_S (by rw [List.all_eq_true]; intro c hc; have := h c hc; simp; omega) hne hl
/-- the last places of a number's digits -/
theorem dv_last {a : List Nat} (h : NumText.AllDigits a) {k : Nat} (hk : k ≤ a.length) : NumText.digitsVal (a.drop (a.length - k)) = NumText.digitsVal a % 10 ^ k := by
  have e := dv_append (a.take (a.length - k)) (a.drop (a.length - k))
  rw [List.take_append_drop] at e
  have hl : (a.drop (a.length - k)).length = k := by rw [List.length_drop]; omega
  have h2 := dv_lt (dig_drop h (a.length - k))
  rw [hl] at e h2
  rw [e, Nat.add_comm, Nat.add_mul_mod_self_right, Nat.mod_eq_of_lt h2]
theorem dv_first {a : List Nat} (h : NumText.AllDigits a) {k : Nat} (hk : k ≤ a.length) : NumText.digitsVal (a.take (a.length - k)) = NumText.digitsVal a / 10 ^ k := by
  have e := dv_append (a.take (a.length - k)) (a.drop (a.length - k))
  rw [List.take_append_drop] at e
  have hl : (a.drop (a.length - k)).length = k := by rw [List.length_drop]; omega
  have h2 := dv_lt (dig_drop h (a.length - k))
  rw [hl] at e h2
  rw [e, Nat.add_comm, Nat.add_mul_div_right _ _ (Nat.pow_pos (by decide)), Nat.div_eq_of_lt h2, Nat.zero_add]
theorem repS_dig (n : Nat) (c : Nat) : repS n (S [c]) = S (List.replicate n c) := by
  unfold repS S
  congr 1
  show (List.replicate n [c]).flatten.toArray = _
  congr 1
  induction n with
  | zero => rfl
  | succ n ih => rw [List.replicate_succ, List.flatten_cons, ih]; rfl
theorem ten_text (n : Nat) (h : n ≤ 600) : intText? (S [49] ++ repS n (S [48])) = some ((10 ^ n : Nat) : Int) := by
  rw [repS_dig, S_cat, int_dig (dig_app (fun c hc => by cases hc with | head => decide | tail _ h => cases h) (dig_zero n)) (by simp) (by simp; omega), dv_append, dv_zero, List.length_replicate]
  simp [NumText.digitsVal]
theorem one_S : ("1" : Str) = S [49] := rfl
theorem zero_S : ("0" : Str) = S [48] := rfl
/-- a number's digits behind noughts -/
def digs (w n : Nat) : List Nat := List.replicate w 48 ++ TL.numL n
theorem digs_dig (w n : Nat) : NumText.AllDigits (digs w n) := dig_app (dig_zero w) (TL.numL_digits n)
theorem digs_val (w n : Nat) : NumText.digitsVal (digs w n) = n := by
  unfold digs
  rw [dv_append, dv_zero, TL.numL_val, Nat.zero_mul, Nat.zero_add]
theorem digs_len (w n k : Nat) (hk : 0 < k) (h : n < 10 ^ k) : w < (digs w n).length ∧ (digs w n).length ≤ w + k := by
  unfold digs
  have h1 := TL.numL_len hk h
  have h2 := List.length_pos_iff.mpr (TL.numL_ne n)
  rw [List.length_append, List.length_replicate]
  omega
theorem digs_S (w n : Nat) : repS w (S [48]) ++ PySem.Str.ofString (toString ((n : Nat) : Int)) = S (digs w n) := by
  rw [repS_dig, num_S, S_cat]; rfl
theorem cut_from {a : List Nat} {i : Int} (h : 0 ≤ i) : cutS (S a) (some i) none = S (a.drop i.toNat) := by
  rw [C8.cutS_slice, slice_from h]
theorem cut_to {a : List Nat} {i : Int} (h : 0 ≤ i) : cutS (S a) none (some i) = S (a.take i.toNat) := by
  rw [C8.cutS_slice, slice_to h]
theorem tail_text {a : List Nat} (h : NumText.AllDigits a) {e : Int} (e1 : 1 ≤ e) (e2 : e ≤ a.length) (hl : a.length ≤ 600) :
    intText? (cutS (S a) (some ((a.length : Int) - e)) none) = some ((NumText.digitsVal a : Int) % 10 ^ e.toNat) ∧ (cutS (S a) (some ((a.length : Int) - e)) none).length ≤ 640 := by
  have e3 : ((a.length : Int) - e).toNat = a.length - e.toNat := by omega
  have e4 : (a.drop (a.length - e.toNat)).length = e.toNat := by rw [List.length_drop]; omega
  rw [cut_from (by omega), e3]
  refine ⟨?_, ?_⟩
  · rw [int_dig (dig_drop h _) (by intro hc; rw [hc] at e4; simp at e4; omega) (by omega), dv_last h (by omega), Int.natCast_emod, Int.natCast_pow]; rfl
  · rw [S_len]; omega
theorem num_nat (n : Nat) : PySem.Str.ofString (toString ((n : Nat) : Int)) = S (TL.numL n) := num_S n
theorem digs_fold (w n : Nat) : List.replicate w 48 ++ TL.numL n = digs w n := rfl
theorem S_catX (a b : List Nat) : S a ++ S b = S (a ++ b) := S_cat a b
/-! a machine -/
def Mc (w s r : Int) : PyData := .tuple [.int w, .int s, .int r]
theorem mc0 {w s r : Int} {S : Sl → Prop} : Ev (ixD (Mc w s r) (.int 0)) S = S (.im (.int w)) := by unfold Mc; rw [v_ixt, at0, ev_some]
theorem mc1 {w s r : Int} {S : Sl → Prop} : Ev (ixD (Mc w s r) (.int 1)) S = S (.im (.int s)) := by unfold Mc; rw [v_ixt, at1, ev_some]
theorem mc2 {w s r : Int} {S : Sl → Prop} : Ev (ixD (Mc w s r) (.int 2)) S = S (.im (.int r)) := by unfold Mc; rw [v_ixt, at2, ev_some]
end CK
/-! the calculus for CKSetA, CKPick; while -/
namespace CK
open PySem L2
theorem whileD_out {c : Tt} {A : Sm} {U : Fl × List Sl → Prop} (Inv : Nat → List Sl → Prop)
    (s : ∀ (n : Nat) (δ : List Sl), Inv n δ → Ev (c δ) fun x => Br (x.1 = true) (Ev (A x.2) fun y => kLoop (fun δ2 => ∃ m, m < n ∧ Inv m δ2) U y.1 y.2) (U (.nx, x.2))) :
    ∀ (n : Nat) (δ : List Sl), Inv n δ → ∃ N r, whileD c A N δ = some r ∧ U r := by
  intro n
  induction n using Nat.strongRecOn with
  | _ n ih =>
    intro δ h
    obtain ⟨⟨b, δ1⟩, e1, g⟩ := s n δ h
    cases b with
    | false =>
      refine ⟨1, (.nx, δ1), ?_, g.2 Bool.false_ne_true⟩
      unfold whileD
      rw [e1]; rfl
    | true =>
      obtain ⟨⟨fl, δ2⟩, e2, g⟩ := g.1 rfl
      have again : (∃ m, m < n ∧ Inv m δ2) → (fl = .nx ∨ fl = .ct) → ∃ N r, whileD c A N δ = some r ∧ U r := fun ⟨m, hm, g⟩ hf => by
        obtain ⟨N, r, e3, u⟩ := ih m hm δ2 g
        refine ⟨N + 1, r, ?_, u⟩
        unfold whileD
        rw [e1, Option.bind_some, if_pos rfl, e2, Option.bind_some]
        rcases hf with rfl | rfl <;> exact e3
      cases fl with
      | nx => exact again g (.inl rfl)
      | ct => exact again g (.inr rfl)
      | bk =>
        refine ⟨1, (.nx, δ2), ?_, g⟩
        unfold whileD
        rw [e1, Option.bind_some, if_pos rfl, e2, Option.bind_some]
      | rt r =>
        refine ⟨1, (.rt r, δ2), ?_, g⟩
        unfold whileD
        rw [e1, Option.bind_some, if_pos rfl, e2, Option.bind_some]
theorem ev_while {c : Tt} {A : Sm} {U : Fl × List Sl → Prop} (Inv : Nat → List Sl → Prop) {n : Nat} {δ : List Sl} (h : Inv n δ)
    (s : ∀ (n : Nat) (δ : List Sl), Inv n δ → Ev (c δ) fun x => Br (x.1 = true) (Ev (A x.2) fun y => kLoop (fun δ2 => ∃ m, m < n ∧ Inv m δ2) U y.1 y.2) (U (.nx, x.2))) : Ev (sWhile c A δ) U := by
  obtain ⟨N, r, e, u⟩ := whileD_out Inv s n δ h
  exact ⟨r, sWhile_of e, u⟩
section
variable {δ : List Sl} {S : Sl × List Sl → Prop} {U : Fl × List Sl → Prop} {W : List Sl → Prop} {T : Sl → Prop} {B : Bool → Prop}
theorem ev_dLR1 (F : Ex) : Ev (dLR1 F δ) S = Ev (F δ) fun x => Ev (intOf x.1) fun n => Gd (0 ≤ n ∧ n ≤ LINE) (S (.bx .l (rgD 0 n), x.2)) := by simp only [e0, b0, g0, dLR1, x_bind, x_gd, x_some]
theorem ev_dLR2 (F1 F2 : Ex) : Ev (dLR2 F1 F2 δ) S = Ev (F1 δ) fun x => Ev (intOf x.1) fun n => Ev (F2 x.2) fun y => Ev (intOf y.1) fun m => Gd (0 ≤ n ∧ n ≤ LINE ∧ 0 ≤ m ∧ m ≤ LINE) (S (.bx .l (rgD n m), y.2)) := by simp only [e0, b0, g0, dLR2, x_bind, x_gd, x_some]
theorem ev_dCh3 (f g h : Int → Int → Bool) (a b c d : Ex) : Ev (dCh3 f g h a b c d δ) S = Ev (a δ) fun x => Ev (intOf x.1) fun i => Ev (b x.2) fun y => Ev (intOf y.1) fun j => Br (f i j = true) (Ev (c y.2) fun z => Ev (intOf z.1) fun k => Br (g j k = true) (Ev (d z.2) fun u => Ev (intOf u.1) fun l => S (.im (.bool (h k l)), u.2)) (S (.im (.bool false), z.2))) (S (.im (.bool false), y.2)) := by
  simp only [e0, b0, g0, dCh3, x_bind, x_ite, x_some]
theorem lstS_im (ds : List PyData) : lstS (some (.im (.list ds))) = some ds := rfl
theorem lstS_ow (ds : List PyData) : lstS (some (.bx .l ds)) = some ds := rfl
theorem ev_dIdx (i : Nat) (F : Ex) : Ev (dIdx i F δ) S = Ev (lstS δ[i]?) fun _ => Ev (F δ) fun x => Ev x.1.sh fun d => Ev (lstS x.2[i]?) fun es => Gd (SeqAt.shaped (.list es) = true ∧ SeqAt.shaped d = true) (Ev (idxL d es) fun j => S (.im (.int (j : Nat)), x.2)) := by
  simp only [e0, b0, g0, dIdx, x_bind, x_gd, x_some]
theorem ev_tgS (i : Nat) (Fi : Ex) (d : PyData) : Ev (tgS i Fi d δ) W = Ev (owS δ[i]?) fun _ => Ev (Fi δ) fun y => Ev (intOf y.1) fun j => Ev (owS y.2[i]?) fun ds => Ev (ixN ds.length j) fun k => W (y.2.set i (.bx .l (ds.set k d))) := by
  unfold tgS
  simp only [e0, b0, g0]
  refine (x_owBind _ _).trans ?_
  simp only [x_bind, x_gd, x_some]
  rfl
theorem ev_sPick (i : Nat) (c : Tt) (F1 F2 : Ex) (b : Od) : Ev (sPick i c F1 F2 b δ) U = Ev (c δ) fun x => Gd (i < x.2.length) (Br (x.1 = true) (Ev (sRet (dOp2 ixD (.ex F1) b) (x.2.set i .no)) U) (Ev (sRet (dOp2 ixD (.ex F2) b) (x.2.set i .no)) U)) := by
  simp only [e0, b0, g0, sPick, x_bind, x_gd]
  refine congrArg _ (funext fun x => ?_)
  obtain ⟨b', δ'⟩ := x
  have e : Ev0 (sRet (dOp2 ixD (.ex (if b' = true then F1 else F2)) b) (δ'.set i .no)) U = Br0 (b' = true) (Ev0 (sRet (dOp2 ixD (.ex F1) b) (δ'.set i .no)) U) (Ev0 (sRet (dOp2 ixD (.ex F2) b) (δ'.set i .no)) U) := by
    cases b' with
    | true => exact propext ⟨fun h => ⟨fun _ => h, fun n => (n rfl).elim⟩, fun h => h.1 rfl⟩
    | false => exact propext ⟨fun h => ⟨fun n => (nomatch n), fun _ => h⟩, fun h => h.2 Bool.false_ne_true⟩
  exact congrArg _ e
theorem v_usort (ds : List PyData) : Ev (usortD (.list ds)) T = Ev (intsD ds) fun ns => Gd (ns.length < 64) (T (.bx .l ((usortI ns).map PyData.int))) := by simp only [e0, b0, g0, usortD, x_bind, x_gd, x_some]
theorem v_meml (d : PyData) (ds : List PyData) : Ev (memD d (.list ds)) B = Gd (SeqAt.shaped d = true ∧ SeqAt.shaped (.list ds) = true) (B (ds.any fun z => PyData.eqv z d)) := by cases d <;> simp only [e0, b0, g0, memD, x_gd, x_some]
theorem v_memt (d : PyData) (ds : List PyData) : Ev (memD d (.tuple ds)) B = Gd (SeqAt.shaped d = true ∧ SeqAt.shaped (.tuple ds) = true) (B (ds.any fun z => PyData.eqv z d)) := by cases d <;> simp only [e0, b0, g0, memD, x_gd, x_some]
theorem v_nmem (d e : PyData) : Ev (nmemD d e) B = Ev (memD d e) fun b => B (!b) := by simp only [e0, b0, g0, nmemD, x_bind, x_some]
end
end CK
/-! the calculus of answers: objects -/
namespace CK
open PySem PySem.Spec PyProof.Rows L2
section
variable {δ : List Sl} {S : Sl × List Sl → Prop} {U : Fl × List Sl → Prop}
theorem objS_o (fs : List Str) (ds : List PyData) : objS (some (.bx (.o fs) ds)) = some (fs, ds) := rfl
theorem ev_dFld (i : Nat) (f : Str) : Ev (dFld i f δ) S = Ev (objS δ[i]?) fun o => Ev ((o.1.zip o.2).lookup f) fun d => S (.im d, δ) := by simp only [e0, b0, g0, dFld, x_bind, x_some]
theorem ev_sFldD (i : Nat) (f : Str) (F : Ex) : Ev (sFldD i f F δ) U = Ev (F δ) fun x => Ev x.1.sh fun d => Ev (objS x.2[i]?) fun o => Gd (o.1.length < 9) (Ev (putD f d o.1 o.2) fun r => U (.nx, x.2.set i (.bx (.o r.1) r.2))) := by simp only [e0, b0, g0, sFldD, x_bind, x_gd, x_some]
theorem ev_dMeth (m : Str) (fn : Fn) (i : Nat) (as : List Ag) : Ev (dMeth m fn i as δ) S = Ev (objS δ[i]?) fun o => Gd (o.1.contains m = false) (Ev (dCall fn (.io i :: as) δ) S) := by simp only [e0, b0, g0, dMeth, x_bind, x_gd]
theorem ev_dProp (fn : Fn) (i : Nat) : Ev (dProp fn i δ) S = Ev (objS δ[i]?) fun _ => Ev (dCall fn [.io i] δ) S := by simp only [e0, b0, g0, dProp, x_bind]
def makeS : Sl × List Sl → Option Sl
  | (.im .none, .bx (.o fs) ds :: _) => some (.bx (.o fs) ds)
  | _ => none
theorem makeS_o (fs : List Str) (ds : List PyData) (r : List Sl) : makeS (.im .none, .bx (.o fs) ds :: r) = some (.bx (.o fs) ds) := rfl
theorem ev_dMake (fn : Fn) (as : List Ag) : Ev (dMake fn as δ) S = Gd (agI as = []) (Ev (agE as δ) fun x => Ev (agS as x.1 x.2) fun ss => Ev (fn (.bx (.o []) [] :: ss)) fun y => Ev (makeS y) fun o => S (o, x.2)) := by
  simp only [e0, b0, g0, dMake, x_gd, x_bind]
  refine congrArg _ (congrArg _ (funext fun x => congrArg _ (funext fun ss => congrArg _ (funext fun y => ?_))))
  unfold makeS
  split <;> simp only [x_some, x_none]
theorem ev_dHide (F : Ex) : Ev (dHide F δ) S = Ev (F (hide δ)) fun x => S (x.1, unh δ x.2) := by simp only [e0, b0, g0, dHide, x_bind, x_some]
theorem hide_nil : hide [] = [] := rfl
theorem hide_cons (s : Sl) (r : List Sl) : hide (s :: r) = hideS s :: hide r := rfl
theorem hideS_o (fs : List Str) (ds : List PyData) : hideS (.bx (.o fs) ds) = .no := rfl
theorem hideS_l (ds : List PyData) : hideS (.bx .l ds) = .bx .l ds := rfl
theorem hideS_im (d : PyData) : hideS (.im d) = .im d := rfl
theorem hideS_fz (d : List PyData) : hideS (.fz d) = .fz d := rfl
theorem hideS_no : hideS .no = .no := rfl
theorem unh_nil (y : List Sl) : unh [] y = y := rfl
theorem unh_cons (s x : Sl) (r y : List Sl) : unh (s :: r) (x :: y) = unS s x :: unh r y := rfl
theorem unS_o (fs : List Str) (ds : List PyData) (x : Sl) : unS (.bx (.o fs) ds) x = .bx (.o fs) ds := rfl
theorem unS_l (ds : List PyData) (x : Sl) : unS (.bx .l ds) x = x := rfl
theorem unS_im (d : PyData) (x : Sl) : unS (.im d) x = x := rfl
theorem unS_fz (d : List PyData) (x : Sl) : unS (.fz d) x = x := rfl
theorem unS_no (x : Sl) : unS .no x = x := rfl
theorem str_kc : (("kept_calls" : Str) == ("kept_machine" : Str)) = false := by decide
theorem str_ne : ((("kept_machine" : Str) = ("kept_calls" : Str)) = False) := eq_false (by decide)
end
end CK
/-! the calculus of answers: dicts, objects that remember -/
namespace CK
open PySem PySem.Spec PyProof.Rows L2
/-! what can be shown, empty dicts in it -/
mutual
theorem empD_of : ∀ d : PyData, PyData.hasDict d = false → empD d = true
  | .none, _ => by simp only [empD]
  | .bool _, _ => by simp only [empD]
  | .int _, _ => by simp only [empD]
  | .str _, _ => by simp only [empD]
  | .list xs, h => by
    simp only [empD]
    exact empAll_of xs (by simpa only [PyData.hasDict] using h)
  | .tuple xs, h => by
    simp only [empD]
    exact empAll_of xs (by simpa only [PyData.hasDict] using h)
  | .dict _, h => by simp only [PyData.hasDict] at h; cases h
theorem empAll_of : ∀ xs : List PyData, PyData.hasDictAll xs = false → empAll xs = true
  | [], _ => by simp only [empAll]
  | x :: xs, h => by
    simp only [PyData.hasDictAll, Bool.or_eq_false_iff] at h
    simp only [empAll, empD_of x h.1, empAll_of xs h.2, Bool.and_self]
end
structure Nix (k n : Nat) (d : PyData) : Prop where
  s : PyData.showable d = true
  e : empD d = true
  len : (PyData.shown d).length ≤ n
  dep : PyData.depth d ≤ k
theorem Nic.nix {k n : Nat} {d : PyData} (h : Nic k n d) : Nix k n d := ⟨h.s, empD_of d h.nd, h.len, h.dep⟩
theorem Nix.mono {k n k' n' : Nat} {d : PyData} (h : Nix k n d) (hk : k ≤ k') (hn : n ≤ n') : Nix k' n' d := ⟨h.s, h.e, Nat.le_trans h.len hn, Nat.le_trans h.dep hk⟩
theorem nix_dict : Nix 1 260 (.dict []) := ⟨by simp only [PyData.showable, PyData.showableKv], by simp only [empD], by decide +kernel, by decide +kernel⟩
theorem nix_all {k n : Nat} : ∀ {ds : List PyData}, (∀ d ∈ ds, Nix k n d) → PyData.showableAll ds = true ∧ empAll ds = true ∧ ((PyData.shownAll ds).map (·.length)).sum ≤ ds.length * n ∧ (PyData.shownAll ds).length = ds.length ∧ PyData.depthAll ds ≤ k
  | [], _ => ⟨by simp only [PyData.showableAll], by simp only [empAll], by simp [PyData.shownAll], by simp [PyData.shownAll], by simp only [PyData.depthAll]; omega⟩
  | d :: ds, h => by
    obtain ⟨h1, h2, h3, h4, h5⟩ := nix_all (ds := ds) fun e he => h e (List.mem_cons_of_mem _ he)
    have g := h d (List.mem_cons_self ..)
    refine ⟨by simp only [PyData.showableAll, g.s, h1, Bool.and_self], by simp only [empAll, g.e, h2, Bool.and_self], ?_, by simp only [PyData.shownAll, List.length_cons, h4], ?_⟩
    · have := g.len
      simp only [PyData.shownAll, List.map_cons, List.sum_cons, List.length_cons, Nat.add_mul, Nat.one_mul]
      omega
    · have := g.dep
      simp only [PyData.depthAll]
      omega
theorem nix_list {k n : Nat} {ds : List PyData} (h : ∀ d ∈ ds, Nix k n d) : Nix (k + 1) (ds.length * (n + 2) + 3) (.list ds) := by
  obtain ⟨h1, h2, h3, h4, h5⟩ := nix_all h
  refine ⟨by simpa only [PyData.showable] using h1, by simpa only [empD] using h2, ?_, by simp only [PyData.depth]; omega⟩
  have := PySem.listText_len_le (PyData.shownAll ds)
  simp only [PyData.shown, Nat.mul_add]
  omega
theorem nix_tup {k n : Nat} {ds : List PyData} (h : ∀ d ∈ ds, Nix k n d) : Nix (k + 1) (ds.length * (n + 2) + 3) (.tuple ds) := by
  obtain ⟨h1, h2, h3, h4, h5⟩ := nix_all h
  refine ⟨by simpa only [PyData.showable] using h1, by simpa only [empD] using h2, ?_, by simp only [PyData.depth]; omega⟩
  have := PySem.tupleText_len_le (PyData.shownAll ds)
  simp only [PyData.shown, Nat.mul_add]
  omega
section
variable {δ : List Sl} {S : Sl × List Sl → Prop} {U : Fl × List Sl → Prop} {T : Sl → Prop}
theorem keyOf_int (i : Int) : keyOf (.im (.int i)) = some (.inl i) := rfl
theorem keyOf_str (i : Str) : keyOf (.im (.str i)) = some (.inr i) := rfl
theorem dicS_d (ks : List Key) (ds : List PyData) : dicS (some (.bx (.d ks) ds)) = some (ks, ds) := rfl
theorem ev_dDicE : Ev (dDicE δ) S = S (.im (.dict []), δ) := x_some _
theorem v_isiE (t : String) (d : PyData) : Ev (isiE t d) T = Ev (clsE d) fun u => T (.im (.bool (kinD u t))) := by simp only [e0, b0, g0, isiE, x_bind, x_some]
theorem clsE_dict (k : List (PyData × PyData)) (h : noExn k = true) : clsE (.dict k) = some "dict" := if_pos h
theorem clsE_none : clsE .none = some "NoneType" := rfl
theorem clsE_bool (b : Bool) : clsE (.bool b) = some "bool" := rfl
theorem clsE_int (i : Int) : clsE (.int i) = some "int" := rfl
theorem clsE_str (i : Str) : clsE (.str i) = some "str" := rfl
theorem clsE_list (i : List PyData) : clsE (.list i) = some "list" := rfl
theorem clsE_tuple (i : List PyData) : clsE (.tuple i) = some "tuple" := rfl
theorem kin_dict_int : kinD "dict" "int" = false := by decide +kernel
theorem kin_dict_bool : kinD "dict" "bool" = false := by decide +kernel
theorem kin_dict_str : kinD "dict" "str" = false := by decide +kernel
theorem kin_dict_list : kinD "dict" "list" = false := by decide +kernel
theorem kin_dict_tuple : kinD "dict" "tuple" = false := by decide +kernel







theorem ev_reprX {k n : Nat} {d : PyData} (h : Nix k n d) (hk : k ≤ 64) (hn : n ≤ 16777216) (q : T (.im (.str (PyData.shown d)))) : Ev (reprE d) T := by
  unfold reprE
  rw [ev_gd, ev_some]
  exact ⟨⟨h.s, h.e, Nat.le_trans h.len hn, Nat.le_trans h.dep hk⟩, q⟩
theorem ev_dDicN : Ev (dDicN δ) S = S (.bx (.d []) [], δ) := x_some _
theorem ev_dDic1 (Fk F : Ex) : Ev (dDic1 Fk F δ) S = Ev (Fk δ) fun x => Ev (keyOf x.1) fun k => Ev (F x.2) fun y => Ev y.1.sh fun d => S (.bx (.d [k]) [d], y.2) := by simp only [e0, b0, g0, dDic1, x_bind, x_some]
theorem ev_dDGet (i : Nat) (Fk : Ex) : Ev (dDGet i Fk δ) S = Ev (dicS δ[i]?) fun _ => Ev (Fk δ) fun x => Ev (keyOf x.1) fun k => Ev (dicS x.2[i]?) fun o => Ev (getQ k o.1 o.2) fun d => S (.im d, x.2) := by simp only [e0, b0, g0, dDGet, x_bind, x_some]
theorem ev_dDIn (n : Bool) (Fk : Ex) (i : Nat) : Ev (dDIn n Fk i δ) S = Ev (Fk δ) fun x => Ev (keyOf x.1) fun k => Ev (dicS x.2[i]?) fun o => S (.im (.bool (n != (getQ k o.1 o.2).isSome)), x.2) := by simp only [e0, b0, g0, dDIn, x_bind, x_some]
theorem ev_sDPutD (i : Nat) (Fk F : Ex) : Ev (sDPutD i Fk F δ) U = Ev (F δ) fun x => Ev x.1.sh fun d => Ev (dicS x.2[i]?) fun _ => Ev (Fk x.2) fun y => Ev (keyOf y.1) fun k => Ev (dicS y.2[i]?) fun o => Gd (o.1.Nodup ∧ o.1.length < LINE ∧ o.1.length = o.2.length) (Ev (putQ k d o.1 o.2) fun r => U (.nx, y.2.set i (.bx (.d r.1) r.2))) := by
  simp only [e0, b0, g0, sDPutD, x_bind, x_gd, x_some]
theorem ev_dSortK (i : Nat) : Ev (dSortK i δ) S = Ev (dicS δ[i]?) fun o => Ev (keysI o.1) fun ns => Gd (ns.length < 64 ∧ o.1.length = o.2.length) (S (.bx .l ((sortI ns).map PyData.int), δ)) := by simp only [e0, b0, g0, dSortK, x_bind, x_gd, x_some]
theorem moS_mo (x : Inf) : moS (some (.mo x)) = some x := rfl
theorem ev_dMPl (i : Nat) : Ev (dMPl i δ) S = Ev (moS δ[i]?) fun x => S (.im (.int x.pl), δ) := by simp only [e0, b0, g0, dMPl, x_bind, x_some]
theorem ev_dMMeth (fn : Fn) (i : Nat) (as : List Ag) : Ev (dMMeth fn i as δ) S = Ev (moS δ[i]?) fun _ => Ev (dCallM fn (.io i :: as) δ) S := by simp only [e0, b0, g0, dMMeth, x_bind]
theorem ev_dCallM (f : Fn) (as : List Ag) : Ev (dCallM f as δ) S = Ev (agE as δ) fun x => Gd (moIn (agI as) 0 x.2 = true) (Ev (agS as x.1 x.2) fun ss => Ev (f ss) fun y => S (y.1, agB as y.2 x.2)) := by simp only [e0, b0, g0, dCallM, x_bind, x_gd, x_some]
theorem moIn_nil (l : List Nat) (i : Nat) : moIn l i [] = true := rfl
theorem moIn_mo (l : List Nat) (i : Nat) (x : Inf) (r : List Sl) : moIn l i (.mo x :: r) = (l.contains i && moIn l (i + 1) r) := rfl
theorem moIn_im (l : List Nat) (i : Nat) (x : PyData) (r : List Sl) : moIn l i (.im x :: r) = moIn l (i + 1) r := rfl
theorem moIn_bx (l : List Nat) (i : Nat) (t : Bt) (x : List PyData) (r : List Sl) : moIn l i (.bx t x :: r) = moIn l (i + 1) r := rfl
theorem moIn_no (l : List Nat) (i : Nat) (r : List Sl) : moIn l i (.no :: r) = moIn l (i + 1) r := rfl
theorem moIn_fz (l : List Nat) (i : Nat) (x : List PyData) (r : List Sl) : moIn l i (.fz x :: r) = moIn l (i + 1) r := rfl
theorem moIn_raw (l : List Nat) (i : Nat) (x : V) (r : List Sl) : moIn l i (.raw x :: r) = moIn l (i + 1) r := rfl
/-- behind a suite that runs through -/
def kThru (N : List Sl → Prop) : Fl → List Sl → Prop
  | .nx, δ => N δ
  | _, _ => False
theorem kThru_nx (N : List Sl → Prop) : kThru N .nx δ = N δ := rfl
theorem ev_sMemo (sp : SpT) (li : LiT) (i k : Nat) (f : Str) (B : Sm) (F : Ex) : Ev (sMemo sp li i k f B F δ) U = Ev (moS δ[i]?) fun x => Ev (rdN δ k) fun kd => Gd (kd ∈ li x f ∧ keyOk kd = true) (Ev (B δ) fun y => kThru (fun δ1 => Ev (F δ1) fun z => Ev z.1.sh fun d =>
    Gd (sp x f kd = some d ∧ moS z.2[i]? = some x ∧ rdN z.2 k = some kd ∧ z.2.length = δ.length) (U (.rt (.im d), (List.replicate z.2.length Sl.no).set i (.mo x)))) y.1 y.2) := by
  simp only [e0, b0, g0, sMemo, x_bind, x_gd, x_some]
  refine congrArg _ (funext fun x => congrArg _ (funext fun kd => congrArg _ (congrArg _ (funext fun y => ?_))))
  obtain ⟨fl, d⟩ := y
  cases fl <;> simp only [kThru, x_some, x_none, e0, b0, g0, x_bind, x_gd]
theorem ev_dUnl (li : LiT) (mW : Fn) (F : Ex) (as : List Ag) : Ev (dUnl li mW F as δ) S = Ev (F δ) fun x => Ev (intOf x.1) fun n => Ev (agE as x.2) fun y => Ev (agS as y.1 y.2) fun ss => Gd (allIm ss = true ∧ agI as = [] ∧ ∀ f ∈ mNames, (li (infOf n ss) f).length ≤ sizeLine) (Ev (mW (.mo (infOf n ss) :: ss)) fun z => Ev (imS z.1) fun d => S (.im d, y.2)) := by
  simp only [e0, b0, g0, dUnl, x_bind, x_gd, x_some]
theorem ev_sPar4 (i j l m : Nat) (F1 F2 F3 F4 : Ex) : Ev (sPar4 i j l m F1 F2 F3 F4 δ) U = Ev (F1 δ) fun x => Ev (F2 x.2) fun y => Ev (F3 y.2) fun z => Ev (F4 z.2) fun u => U (.nx, (((u.2.set i x.1).set j y.1).set l z.1).set m u.1) := by simp only [e0, b0, g0, sPar4, x_bind, x_some]
theorem ownL_l (ds : List PyData) : ownL (.bx .l ds) = some ds := rfl
theorem ev_dOrL (f g : Ex) : Ev (dOrL f g δ) S = Ev (f δ) fun x => Ev (ownL x.1) fun ds => Br (ds.isEmpty = true) (Ev (g x.2) S) (S x) := by simp only [e0, b0, g0, dOrL, x_bind, x_ite, x_some]
theorem imS_im (d : PyData) : imS (.im d) = some d := rfl
theorem ev_dDFrz (i : Nat) : Ev (dDFrz i δ) S = Ev (dicS δ[i]?) fun o => S (.im (dicP o.1 o.2), δ.set i (.im (dicP o.1 o.2))) := by simp only [e0, b0, g0, dDFrz, x_bind, x_some]
theorem ev_tgTL {W : List Sl → Prop} (t : List PyData → List Sl → Option (List Sl)) (ds : List PyData) : Ev (tgTL t (.list ds) δ) W = Ev (t ds δ) W := rfl
theorem v_ltl {B : Bool → Prop} (ds es : List PyData) : Ev (ltLD (.list ds) (.list es)) B = Ev (intsD ds) fun ns => Ev (intsD es) fun ms => B (HT.lexLt ns ms) := by simp only [e0, b0, g0, ltLD, x_bind, x_some]
theorem v_ixkl (ds : List PyData) (e : PyData) : Ev (ixkD (.list ds) e) T = Ev (ixD (.list ds) e) T := rfl
theorem v_ixkt (ds : List PyData) (e : PyData) : Ev (ixkD (.tuple ds) e) T = Ev (ixD (.tuple ds) e) T := rfl
theorem v_ixkd (ds : List (PyData × PyData)) (i : Int) : Ev (ixkD (.dict ds) (.int i)) T = Ev (lkD ds i) fun d => T (.im d) := by simp only [e0, b0, g0, ixkD, x_bind, x_some]
end
end CK
/-! the calculus of answers: errors -/
namespace CK
open PySem PySem.Spec PyProof.Rows L2
section
variable {δ δ1 : List Sl} {S : Sl × List Sl → Prop} {U : Fl × List Sl → Prop} {T : Sl → Prop}
theorem ev_dShr (F : Ex) : Ev (dShr F δ) S = Ev (F δ) fun y => Ev y.1.sh fun d => S (.im d, y.2) := by simp only [e0, b0, g0, dShr, x_bind, x_some]
theorem moX_mo (x : Inf) : moX (some (.mo x)) = some x := rfl
theorem nmX_er (e : Er) : nmX (erI e) = some e.n := rfl
theorem fldX_er (n f : Str) (d : PyData) : fldX f (erI ⟨n, some (f, d)⟩) = some d := by
  show (if f = f then some d else none) = some d
  rw [if_pos rfl]
theorem noneX_mo (x : Inf) : noneX (some (.mo x)) = some false := rfl
theorem noneX_im : noneX (some (.im .none)) = some true := rfl
theorem ev_dIsX (Ns t : List Str) (i : Nat) : Ev (dIsX Ns t i δ) S = Ev (moX δ[i]?) fun x => Ev (nmX x) fun n => Gd (Ns.contains n = true) (S (.im (.bool (t.contains n)), δ)) := by simp only [e0, b0, g0, dIsX, x_bind, x_gd, x_some]
theorem ev_dFldX (Ns : List Str) (f : Str) (i : Nat) : Ev (dFldX Ns f i δ) S = Ev (moX δ[i]?) fun x => Ev (nmX x) fun n => Gd (Ns.contains n = true) (Ev (fldX f x) fun d => S (.im d, δ)) := by simp only [e0, b0, g0, dFldX, x_bind, x_gd, x_some]
theorem ev_sCpy (j i : Nat) : Ev (sCpy j i δ) U = Ev (moX δ[i]?) fun x => Gd (j < δ.length) (U (.nx, δ.set j (.mo x))) := by simp only [e0, b0, g0, sCpy, x_bind, x_gd, x_some]
theorem ev_dNoneX (i : Nat) : Ev (dNoneX i δ) S = Ev (noneX δ[i]?) fun b => S (.im (.bool b), δ) := by simp only [e0, b0, g0, dNoneX, x_bind, x_some]
/-- try -/
theorem ev_sTry {xB : Sx} {B : Sm} {ns : List Str} {i : Nat} {h : Sm} (o : Option (Er × List Sl)) (e : xB δ = o) (hn : o = none → Ev (B δ) U) (he : ∀ er δ1, o = some (er, δ1) → ns.contains er.n = true ∧ i < δ1.length ∧ Ev (h (δ1.set i (.mo (erI er)))) fun y => U (y.1, y.2.set i .no)) : Ev (sTry xB B ns i h δ) U := by
  unfold sTry
  rw [e]
  cases o with
  | none => exact hn rfl
  | some y =>
    obtain ⟨er, d1⟩ := y
    obtain ⟨h1, h2, h3⟩ := he er d1 rfl
    show Ev (if ns.contains er.n = true ∧ i < d1.length then _ else none) U
    rw [if_pos ⟨h1, h2⟩, ev_bind]
    refine h3.mono fun a ha => ?_
    rw [ev_some]
    exact ha
/-! what is raised -/
theorem xs_no {xA xB : Sx} {A : Sm} (h1 : xA δ = none) (h2 : A δ = some (.nx, δ1)) : xSeq xA A xB δ = xB δ1 := by
  unfold xSeq
  rw [h1]
  show (A δ).bind _ = _
  rw [h2]; rfl
theorem xs_er {xA xB : Sx} {A : Sm} {r : Er × List Sl} (h1 : xA δ = some r) : xSeq xA A xB δ = some r := by
  unfold xSeq
  rw [h1]
theorem xif_t {c : Tt} {S T : Sx} (h : c δ = some (true, δ1)) : xIf c S T δ = S δ1 := by
  unfold xIf
  rw [h]; rfl
theorem xif_f {c : Tt} {S T : Sx} (h : c δ = some (false, δ1)) : xIf c S T δ = T δ1 := by
  unfold xIf
  rw [h]; rfl
theorem xraise (n : Str) : xRaise n δ = some (⟨n, none⟩, δ) := rfl
theorem xraise1 {n : Str} {F : Ex} {r : Sl} (h : F δ = some (r, δ1)) : xRaise1 n F δ = some (⟨n, none⟩, δ1) := by
  unfold xRaise1
  rw [h]; rfl
theorem xraiseF {n f : Str} {F : Ex} {r : Sl} {d : PyData} (h : F δ = some (r, δ1)) (hd : r.sh = some d) : xRaiseF n f F δ = some (⟨n, some (f, d)⟩, δ1) := by
  unfold xRaiseF
  rw [h]
  show r.sh.bind _ = _
  rw [hd]; rfl
theorem xno : xNo δ = none := rfl
theorem xcall {x : Fx} {as : List Ag} {ss : List Sl} (h : Ev (agE as δ) fun y => Ev (agS as y.1 y.2) fun s => s = ss ∧ y.2 = δ1) (hi : agI as = []) (hp : ss.all plainS = true) : xCall x as δ = (x ss).map fun e => (e, δ1) := by
  obtain ⟨⟨ps, d⟩, e1, s, e2, rfl, rfl⟩ := h
  unfold xCall
  rw [e1]
  show (agS as ps d).bind _ = _
  rw [e2]
  show (if agI as = [] ∧ s.all plainS = true then _ else none) = _
  rw [if_pos ⟨hi, hp⟩]
  cases x s <;> rfl
theorem fnx {m : Nat} {S : Sx} {as : List Sl} {o : Option (Er × List Sl)} (hp : as.all plainS = true) (h : S (as ++ List.replicate m .no) = o) : fnX m S as = o.map (·.1) := by
  unfold fnX
  rw [if_pos hp, h]
end
end CK
namespace CK
open PySem L2
noncomputable section

abbrev NSx : List Str := ["CrankError", "Impossible", "InvalidCommand", "InvalidCounter", "InvalidCranks", "InvalidMachine", "InvalidNumber", "InvalidPlace", "InvalidPlan", "InvalidRegister", "InvalidSetting", "InvalidSyntax", "InvalidTurns", "NothingToUndo"]
def m_tank : Fn := fnD [] 1
    (sSeq (sSet 2 (dIfE (tOfE (dOp2 (blD ltD) (.nm 1) (.ex (dLenF 0)))) (dIxF 0 (dN 1)) (dC (.int 0))))
    (sRet (dLst [.one (dOp2 max2D (.ex (dC (.int 0))) (.ex (dOp2 subD (.ex (dOp1 absD (.nm 2))) (.ex (dOp2 powD (.ex (dC (.int 10))) (.ex (dC (.int 18)))))))), .one (dOp2 addD (.ex (dOp2 modD (.ex (dOp1 intD (.nm 2))) (.ex (dC (.int 1000000000000000003))))) (.ex (dOp2 mulD (.ex (dC (.int 104729))) (.ex (dOp2 addD (.nm 1) (.ex (dC (.int 1)))))))), .one (dC (.int 0))])))

def m_made : Fn := fnD [] 1
    (sSeq (sSet 2 (dLst [.one (dExN "InvalidSetting" (dN 0)), .one (dExN "InvalidRegister" (dN 0)), .one (dExN "InvalidPlace" (dN 0)), .one (dExN "InvalidTurns" (dN 0))]))
    (sSeq (sSet 2 (dOp2 addD (.nm 2) (.ex (dLst [.one (dExN "InvalidNumber" (dN 0)), .one (dExN "Impossible" (dN 0)), .one (dExN "NothingToUndo" (dN 0)), .one (dExN "InvalidCommand" (dN 0))]))))
    (sSeq (sSet 2 (dOp2 addD (.nm 2) (.ex (dLst [.one (dExF "InvalidMachine" "index" (dN 1)), .one (dExF "InvalidCranks" "index" (dN 1)), .one (dExF "InvalidCounter" "index" (dN 1)), .one (dExF "InvalidPlan" "index" (dN 1))]))))
    (sRet (dOp2 addD (.nm 2) (.ex (dLst [.one (dExF "InvalidSyntax" "word" (dN 1))])))))))

def m_tap : Fn := fnD [0] 2
    (sSeq (sIf (tOfE (dOp2 (blD gtD) (.ex (dOp2 ixD (.nm 0) (.ex (dC (.int 0))))) (.ex (dC (.int 0))))) (sSeq (sSet 2 (dOp2 modD (.ex (dOp1 intD (.ex (dOp2 ixD (.nm 0) (.ex (dC (.int 0))))))) (.nm 1)))
    (sSeq (sSto 0 (dC (.int 0)) (dOp2 fdivD (.ex (dOp2 ixD (.nm 0) (.ex (dC (.int 0))))) (.nm 1)))
    (sRetV 2))) sNext)
    (sSeq (sSto 0 (dC (.int 2)) (dOp2 addD (.ex (dOp2 ixD (.nm 0) (.ex (dC (.int 2))))) (.ex (dC (.int 1)))))
    (sSeq (sSet 3 (dOp2 modD (.ex (dOp1 intD (.ex (dOp2 powD (.ex (dOp2 addD (.ex (dOp2 ixD (.nm 0) (.ex (dC (.int 1))))) (.ex (dOp2 mulD (.ex (dC (.int 350377))) (.ex (dOp2 ixD (.nm 0) (.ex (dC (.int 2))))))))) (.ex (dC (.int 3))))))) (.ex (dC (.int 170141183460469231731687303715884105727)))))
    (sSeq (sSet 3 (dOp2 modD (.ex (dOp1 intD (.ex (dOp2 powD (.ex (dOp2 addD (.nm 3) (.ex (dOp2 mulD (.ex (dC (.int 27644437))) (.ex (dOp2 ixD (.nm 0) (.ex (dC (.int 2))))))))) (.ex (dC (.int 3))))))) (.ex (dOp2 addD (.ex (dOp2 powD (.ex (dC (.int 10))) (.ex (dC (.int 46))))) (.ex (dC (.int 9)))))))
    (sRet (dOp2 modD (.ex (dOp1 intD (.ex (dOp2 fdivD (.nm 3) (.ex (dC (.int 524288))))))) (.nm 1)))))))

def m_kinds : Fn := fnD [] 1
    (sSeq (sSet 1 (dLst [.one (dIsE NSx ["InvalidSetting"] (dN 0)), .one (dIsE NSx ["InvalidRegister"] (dN 0)), .one (dIsE NSx ["InvalidPlace"] (dN 0))]))
    (sSeq (sSet 1 (dOp2 addD (.nm 1) (.ex (dLst [.one (dIsE NSx ["InvalidTurns"] (dN 0)), .one (dIsE NSx ["InvalidNumber"] (dN 0)), .one (dIsE NSx ["Impossible"] (dN 0))]))))
    (sSeq (sSet 1 (dOp2 addD (.nm 1) (.ex (dLst [.one (dIsE NSx ["NothingToUndo"] (dN 0)), .one (dIsE NSx ["InvalidCommand"] (dN 0))]))))
    (sSeq (sSet 1 (dOp2 addD (.nm 1) (.ex (dLst [.one (dIsE NSx ["InvalidMachine"] (dN 0)), .one (dIsE NSx ["InvalidCranks"] (dN 0))]))))
    (sSeq (sSet 1 (dOp2 addD (.nm 1) (.ex (dLst [.one (dIsE NSx ["InvalidCounter"] (dN 0)), .one (dIsE NSx ["InvalidPlan"] (dN 0))]))))
    (sRet (dOp2 addD (.nm 1) (.ex (dLst [.one (dIsE NSx ["InvalidSyntax"] (dN 0))])))))))))

def m_fields_right : Fn := fnD [] 2
    (sSeq (sSet 2 (dOp2 addD (.ex (dLc' 4 (itSeq (dSl (.nm 0) (some (dC (.int 8))) (some (dC (.int 12))))) (tgN 3) tTrue (dFldE ["InvalidCounter", "InvalidCranks", "InvalidMachine", "InvalidPlan"] "index" (dN 3)) [3])) (.ex (dLst [.one (dFldE ["InvalidSyntax"] "word" (dOp2 ixD (.nm 0) (.ex (dC (.int 12))))), .one (dFldE ["InvalidCounter", "InvalidCranks", "InvalidMachine", "InvalidPlan"] "index" (dExF "InvalidMachine" "index" (dN 1)))]))))
    (sSeq (sSet 2 (dOp2 addD (.nm 2) (.ex (dLst [.one (dFldE ["InvalidCounter", "InvalidCranks", "InvalidMachine", "InvalidPlan"] "index" (dExF "InvalidCranks" "index" (dN 1))), .one (dFldE ["InvalidCounter", "InvalidCranks", "InvalidMachine", "InvalidPlan"] "index" (dExF "InvalidCounter" "index" (dN 1))), .one (dFldE ["InvalidCounter", "InvalidCranks", "InvalidMachine", "InvalidPlan"] "index" (dExF "InvalidPlan" "index" (dN 1)))]))))
    (sRet (dOp2 (blD eqD) (.ex (dOp1 reprD (.ex (dOp2 addD (.nm 2) (.ex (dLst [.one (dFldE ["InvalidSyntax"] "word" (dExF "InvalidSyntax" "word" (dN 1)))])))))) (.ex (dOp1 reprD (.ex (dOp2 mulD (.ex (dLst [.one (dN 1)])) (.ex (dC (.int 10)))))))))))

def m_law : Fn := fnD [] 9
    (sSeq (sFor (itR1 (dOp2 max2D (.ex (dC (.int 1))) (.ex (dOp2 min2D (.ex (dC (.int 3))) (.ex (dLenF 0)))))) (tgN 1)
    (sSeq (sSet 2 (dCall m_tank [.ex (dN 0), .ex (dN 1)]))
    (sSeq (sSet 3 (dTM joinF (dC (.str "")) (dLc' 10 (itR1 (dCall m_tap [.io 2, .ex (dC (.int 9))])) (tgN 4) tTrue (dOp2 ixD (.ex (dC (.str "abc \n-"))) (.ex (dCall m_tap [.io 2, .ex (dC (.int 6))]))) [4])))
    (sSeq (sSet 5 (dOp2 ixD (.ex (dLst [.one (dC .none), .one (dC (.int 0)), .one (dCall m_tap [.io 2, .ex (dC (.int 400))]), .one (dOp2 powD (.ex (dC (.int 10))) (.ex (dC (.int 29))))])) (.ex (dCall m_tap [.io 2, .ex (dC (.int 4))]))))
    (sSeq (sSet 6 (dCall m_made [.ex (dN 3), .ex (dN 5)]))
    (sSeq (sFor (itEn (dN 6)) (tgT (tgCons (tgN 7) (tgCons (tgN 8) (tgNil))))
    (sSeq (sIf (tOrD (tNotD (tOfE (dIsE NSx ["CrankError", "Impossible", "InvalidCommand", "InvalidCounter", "InvalidCranks", "InvalidMachine", "InvalidNumber", "InvalidPlace", "InvalidPlan", "InvalidRegister", "InvalidSetting", "InvalidSyntax", "InvalidTurns", "NothingToUndo"] (dN 8)))) (tNotD (tOfE (dIsE NSx ["CrankError", "Impossible", "InvalidCommand", "InvalidCounter", "InvalidCranks", "InvalidMachine", "InvalidNumber", "InvalidPlace", "InvalidPlan", "InvalidRegister", "InvalidSetting", "InvalidSyntax", "InvalidTurns", "NothingToUndo"] (dN 8))))) (sRet (dC (.bool false))) sNext)
    (sIf (tOfE (dOp2 (blD neD) (.ex (dCall m_kinds [.ex (dN 8)])) (.ex (dLc' 10 (itR1 (dC (.int 13))) (tgN 9) tTrue (dOp2 (blD eqD) (.nm 9) (.nm 7)) [9])))) (sRet (dC (.bool false))) sNext)))
    (sSeq (sIf (tOrD (tNotD (tOfE (dCall m_fields_right [.ex (dN 6), .ex (dN 5)]))) (tOfE (dOp2 (blD neD) (.ex (dCall m_kinds [.ex (dExN "CrankError" (dN 3))])) (.ex (dOp2 mulD (.ex (dLst [.one (dC (.bool false))])) (.ex (dC (.int 13)))))))) (sRet (dC (.bool false))) sNext)
    (sIf (tNotD (tOfE (dIsE NSx ["CrankError", "Impossible", "InvalidCommand", "InvalidCounter", "InvalidCranks", "InvalidMachine", "InvalidNumber", "InvalidPlace", "InvalidPlan", "InvalidRegister", "InvalidSetting", "InvalidSyntax", "InvalidTurns", "NothingToUndo"] (dExN "CrankError" (dN 3))))) (sRet (dC (.bool false))) sNext))))))))
    (sRet (dC (.bool true))))

end
end CK
namespace CK
open PySem L2
local macro_rules | `(tactic| walk_at "ev") => `(tactic| simp only [↓ev_bind, ↓ev_some, ↓ev_none, ↓ev_ite, ↓ev_gd, ↓br_true, ↓br_false, ↓gd_true, ↓ev_rdN, ↓ev_dN, ↓ev_dC, ↓ev_dRaw, ↓ev_op1n, ↓ev_op1e, ↓ev_op2nn, ↓ev_op2ne, ↓ev_op2en, ↓ev_op2ee, ↓ev_tOfE, ↓ev_tTrue, ↓ev_tAnd, ↓ev_tOr, ↓ev_tNot, ↓ev_eOfT, ↓ev_dIfE, ↓ev_dAnd, ↓ev_dOr, ↓ev_dNot, ↓ev_dCh, ↓ev_sSeq, ↓kseq_nx, ↓kseq_rt, ↓kseq_bk, ↓kseq_ct, ↓ev_sNext, ↓ev_sBrk, ↓ev_sCt, ↓ev_sStuck, ↓ev_sExpr, ↓ev_sRet, ↓ev_sSet, ↓ev_sIf, ↓ev_sAsg, ↓ev_sPar, ↓ev_sPar3, ↓ev_sRetV, ↓ev_tgN, ↓ev_tgT, ↓ev_tgNil, ↓ev_tgCons, ↓ev_fnD, ↓kRet_rt, ↓kRet_nx, ↓back_nil, ↓back_cons, ↓ev_dCall, ↓ev_agNil, ↓ev_agIo, ↓ev_agEx, ↓ev_agSNil, ↓ev_agSIo, ↓ev_agSEx, ↓ev_fnP, ↓ev_elNil, ↓ev_elOne, ↓ev_elStar, ↓ev_dLst, ↓ev_dTup, ↓ev_dLenF, ↓ev_dIxF, ↓ev_dSlF, ↓ev_prtN, ↓ev_prtS, ↓ev_dSlN, ↓ev_dSlE, ↓ev_dApp, ↓ev_dExt, ↓ev_sSto, ↓ev_sAug, ↓ev_dLend, ↓unl_nil, ↓unl_cons, ↓unl1_owo, ↓unl1_owi, ↓ev_itSeq, ↓ev_itR1, ↓ev_itR2, ↓ev_itR3, ↓ev_itEn, ↓ev_itZip, ↓ev_sFor, ↓kLoop_nx, ↓kLoop_ct, ↓kLoop_bk, ↓kLoop_rt, ↓ev_loopNil, ↓ev_dLc', ↓ev_lcNil, ↓ev_dLR1, ↓ev_dLR2, ↓ev_dCh3, ↓ev_dIdx, ↓ev_tgS, ↓ev_sPick, ↓ev_dFld, ↓ev_sFldD, ↓ev_dMeth, ↓ev_dProp, ↓ev_dMake, ↓ev_dHide, ↓ev_dDicE, ↓ev_dDicN, ↓ev_dDic1, ↓ev_dDGet, ↓ev_dDIn, ↓ev_sDPutD, ↓ev_dSortK, ↓ev_dMPl, ↓ev_dMMeth, ↓ev_dCallM, ↓kThru_nx, ↓ev_sMemo, ↓ev_dUnl, ↓ev_sPar4, ↓ev_dOrL, ↓ev_dDFrz, ↓ev_tgTL, ↓ev_dShr, ↓ev_dIsX, ↓ev_dFldX, ↓ev_sCpy, ↓ev_dNoneX, rdS_im, rdS_ow, dNS_im, dNS_ow, dNS_fz, dNS_raw, sh_im, sh_ow, arg_im, arg_ow, arg_fz, arg_raw, bool_bl, intOf_int, retS_im, retS_ow, retS_fz, retS_raw, okR_im, okR_fz, okR_raw, okR_ow, isOw_ow, isOw_mo, bkS_im, bkS_fz, bkS_raw, owS_ow, ioS_bx, ioS_mo, agB_io, agB_ex, agB_nil, itemsD_l, itemsD_t, fzS_fz, listS_l, iiS_i, frz1_eq, frzS_ow, frzS_im, frzS_no, lendIn_nil, lendIn_cons, unl1_im, unl1_no, unl1_fz, unl1_raw, unl1_owt, nolR_im, nolR_ow, nolD_int, nolD_str, nolD_bool, nolD_none, nolD_tup, nolAll_nil, nolAll_cons, nolAll_ints, nolAll_app, v_add, v_adds, v_addl, v_addt, v_sub, v_mul, v_mull, v_muls, v_mod, v_fdiv, v_pow, v_neg, v_bl, v_nb, v_lt, v_le, v_gt, v_ge, v_ne, v_isn, v_eqi, v_eqs, v_eqb, v_eqn, v_eqin, v_eqni, v_eqll, v_eqtt, v_isnn, v_isin, v_issn, v_isbn, v_isln, v_istn, v_isbb, v_abs, v_max, v_min, v_lenl, v_lent, v_lens, v_inti, v_intb, v_ints, v_stri, v_strs, v_listl, v_listt, v_tupl, v_tupt, v_sum, v_maxl, v_minl, v_sorted, v_any, v_all, v_r3, v_rev, v_divmod, v_ixl, v_ixt, v_ixs, v_sll, v_slt, v_sls, v_isi, cls_none, cls_bool, cls_int, cls_str, cls_list, cls_tuple, seqD_l, seqD_t, seqD_s, lstS_im, lstS_ow, v_usort, v_meml, v_memt, v_nmem, objS_o, makeS_o, hide_nil, hide_cons, hideS_o, hideS_l, hideS_im, hideS_fz, hideS_no, unh_nil, unh_cons, unS_o, unS_l, unS_im, unS_fz, unS_no, str_kc, str_ne, keyOf_int, keyOf_str, dicS_d, v_isiE, clsE_dict, clsE_none, clsE_bool, clsE_int, clsE_str, clsE_list, clsE_tuple, kin_dict_int, kin_dict_bool, kin_dict_str, kin_dict_list, kin_dict_tuple, moS_mo, moIn_nil, moIn_mo, moIn_im, moIn_bx, moIn_no, moIn_fz, moIn_raw, ownL_l, imS_im, v_ltl, v_ixkl, v_ixkt, v_ixkd, moX_mo, nmX_er, fldX_er, noneX_mo, noneX_im, xraise, xno, kin_int_int, kin_int_bool, kin_int_str, kin_int_list, kin_int_tuple, kin_bool_int, kin_bool_bool, kin_bool_str, kin_bool_list, kin_bool_tuple, kin_str_int, kin_str_bool, kin_str_str, kin_str_list, kin_str_tuple, kin_list_int, kin_list_bool, kin_list_str, kin_list_list, kin_list_tuple, kin_tuple_int, kin_tuple_bool, kin_tuple_str, kin_tuple_list, kin_tuple_tuple, kin_NoneType_int, kin_NoneType_bool, kin_NoneType_str, kin_NoneType_list, kin_NoneType_tuple, at0, at1, at2, at3, at4, at5, ix0, ix1, ix2, eq_self, mc0, mc1, mc2, one_S, zero_S, repS_dig, SX.S_len, S_catX, num_nat, digs_fold, List.length_replicate, List.length_map, Nat.one_mul, Nat.mul_one, Nat.zero_add, List.flatten_cons, List.flatten_nil, P62, LINE, Int.cast_ofNat_Int, PyData.eqv, PyData.eqvAll, Int.reduceEq, Int.reduceNe, Int.reduceLT, Int.reduceLE, Int.reduceGT, Int.reduceGE, Int.reduceBEq, Nat.reduceEqDiff, Nat.reduceLeDiff, Nat.reduceSub, beq_self_eq_true, Nat.reduceBEq, Bool.or_false, Bool.or_true, Bool.true_or, Bool.false_or, Bool.false_eq_true, reduceCtorEq, Int.reducePow, Int.reduceAdd, Int.reduceMul, Int.reduceSub, Int.reduceToNat, Int.reduceNeg, Nat.reduceAdd, Nat.reduceMul, Nat.reducePow, and_self, ite_true, ite_false, and_true, true_and, List.append_nil, List.getElem?_cons_zero, List.getElem?_cons_succ, List.getElem?_nil, List.set_cons_zero, List.set_cons_succ, List.set_nil, List.cons_append, List.nil_append, List.replicate_succ, List.replicate_zero, List.length_cons, List.length_nil, decide_eq_true_eq, decide_true, decide_false, Bool.not_true, Bool.not_false, Bool.not_not, List.zip_cons_cons, List.zip_nil_left, List.zip_nil_right, List.lookup_cons, agI, putD, List.filterMap_cons, List.filterMap_nil, allPlain, noOw, List.all_cons, List.all_nil, Bool.and_true, Bool.true_and, Bool.and_false, Bool.false_and, Bool.not_eq_true, Bool.not_eq_false, List.contains_cons, List.contains_nil, calmD, wipeD, unwipe, Option.getD_some, Option.getD_none])
local macro_rules | `(tactic| walk_at "sz") => `(tactic| first | omega | exact lgm (by omega) (by omega) (by omega) (by omega) | exact lgf (by omega) (by omega) | exact lgp (by omega) (by omega) (by omega) (by omega) | exact lgs (by omega) (by omega) | exact lgv (by omega) (by omega) (by omega) | decide | exact ⟨rfl, rfl⟩)
local macro_rules | `(tactic| walk_at "dis") => `(tactic| first | assumption | omega)
local macro_rules | `(tactic| walk_at "kn") => `(tactic| simp (discharger := walk_at "dis") only [ev_dDIn, ev_dDGet, keyOf_str])
local macro_rules | `(tactic| walk_at "go") => `(tactic| repeat (first | refine gd_mk (by walk_at "sz") ?_ | walk_at "ev" | walk_at "kn"))
/-! ### an item out of a list -/
theorem ev_atP {α : Type} {l : List α} {i : Int} {Q : α → Prop} (P : α → Prop) (h0 : 0 ≤ i) (h1 : i < l.length) (h : ∀ d ∈ l, P d) (q : ∀ d, P d → Q d) : Ev (atI l i) Q := by
  obtain ⟨a, e, g⟩ := atin l h0 h1
  exact ⟨a, g, q a (h a (List.mem_of_getElem? e))⟩
/- an int within bounds -/
def IsI (lo hi : Int) (d : PyData) : Prop := ∃ i, d = .int i ∧ lo ≤ i ∧ i ≤ hi
theorem isI {lo hi i : Int} (h : lo ≤ i) (g : i ≤ hi) : IsI lo hi (.int i) := ⟨i, rfl, h, g⟩
theorem p10 (n : Nat) : (0 : Int) < 10 ^ n := Int.pow_pos (by decide)
theorem p10_le {m n : Nat} (h : m ≤ n) : (10 : Int) ^ m ≤ 10 ^ n := by
  obtain ⟨k, rfl⟩ := Nat.exists_eq_add_of_le h
  rw [Int.pow_add]
  have h1 := p10 m
  have h2 := p10 k
  have := Int.mul_le_mul_of_nonneg_left (show (1 : Int) ≤ 10 ^ k by omega) (show (0 : Int) ≤ 10 ^ m by omega)
  omega
theorem p10_lt {n : Nat} {m : Nat} (h : n ≤ m) (hm : m ≤ 240 := by decide) : (10 : Int) ^ n < 10 ^ 245 := by
  have := p10_le (show n ≤ 240 by omega)
  have : (10 : Int) ^ 240 < 10 ^ 245 := by decide +kernel
  omega
/- one of some ints -/
theorem sel1 {a0 i : Int} {Q : PyData → Prop} (h0 : 0 ≤ i) (h1 : i < 1) (q : ∀ x, (x = a0) → Q (.int x)) : Ev (atI [.int a0] i) Q :=
  ev_atP (fun y => ∃ x : Int, y = .int x ∧ (x = a0)) h0 h1 (allc ⟨_, rfl, by simp⟩ alln) (fun y ⟨x, k1, k2⟩ => by rw [k1]; exact q x k2)
theorem sel2 {a0 a1 i : Int} {Q : PyData → Prop} (h0 : 0 ≤ i) (h1 : i < 2) (q : ∀ x, (x = a0 ∨ x = a1) → Q (.int x)) : Ev (atI [.int a0, .int a1] i) Q :=
  ev_atP (fun y => ∃ x : Int, y = .int x ∧ (x = a0 ∨ x = a1)) h0 h1 (allc ⟨_, rfl, by simp⟩ (allc ⟨_, rfl, by simp⟩ alln)) (fun y ⟨x, k1, k2⟩ => by rw [k1]; exact q x k2)
theorem sel3 {a0 a1 a2 i : Int} {Q : PyData → Prop} (h0 : 0 ≤ i) (h1 : i < 3) (q : ∀ x, (x = a0 ∨ x = a1 ∨ x = a2) → Q (.int x)) : Ev (atI [.int a0, .int a1, .int a2] i) Q :=
  ev_atP (fun y => ∃ x : Int, y = .int x ∧ (x = a0 ∨ x = a1 ∨ x = a2)) h0 h1 (allc ⟨_, rfl, by simp⟩ (allc ⟨_, rfl, by simp⟩ (allc ⟨_, rfl, by simp⟩ alln))) (fun y ⟨x, k1, k2⟩ => by rw [k1]; exact q x k2)
theorem sel4 {a0 a1 a2 a3 i : Int} {Q : PyData → Prop} (h0 : 0 ≤ i) (h1 : i < 4) (q : ∀ x, (x = a0 ∨ x = a1 ∨ x = a2 ∨ x = a3) → Q (.int x)) : Ev (atI [.int a0, .int a1, .int a2, .int a3] i) Q :=
  ev_atP (fun y => ∃ x : Int, y = .int x ∧ (x = a0 ∨ x = a1 ∨ x = a2 ∨ x = a3)) h0 h1 (allc ⟨_, rfl, by simp⟩ (allc ⟨_, rfl, by simp⟩ (allc ⟨_, rfl, by simp⟩ (allc ⟨_, rfl, by simp⟩ alln)))) (fun y ⟨x, k1, k2⟩ => by rw [k1]; exact q x k2)
theorem sel5 {a0 a1 a2 a3 a4 i : Int} {Q : PyData → Prop} (h0 : 0 ≤ i) (h1 : i < 5) (q : ∀ x, (x = a0 ∨ x = a1 ∨ x = a2 ∨ x = a3 ∨ x = a4) → Q (.int x)) : Ev (atI [.int a0, .int a1, .int a2, .int a3, .int a4] i) Q :=
  ev_atP (fun y => ∃ x : Int, y = .int x ∧ (x = a0 ∨ x = a1 ∨ x = a2 ∨ x = a3 ∨ x = a4)) h0 h1 (allc ⟨_, rfl, by simp⟩ (allc ⟨_, rfl, by simp⟩ (allc ⟨_, rfl, by simp⟩ (allc ⟨_, rfl, by simp⟩ (allc ⟨_, rfl, by simp⟩ alln))))) (fun y ⟨x, k1, k2⟩ => by rw [k1]; exact q x k2)
theorem sel6 {a0 a1 a2 a3 a4 a5 i : Int} {Q : PyData → Prop} (h0 : 0 ≤ i) (h1 : i < 6) (q : ∀ x, (x = a0 ∨ x = a1 ∨ x = a2 ∨ x = a3 ∨ x = a4 ∨ x = a5) → Q (.int x)) : Ev (atI [.int a0, .int a1, .int a2, .int a3, .int a4, .int a5] i) Q :=
  ev_atP (fun y => ∃ x : Int, y = .int x ∧ (x = a0 ∨ x = a1 ∨ x = a2 ∨ x = a3 ∨ x = a4 ∨ x = a5)) h0 h1 (allc ⟨_, rfl, by simp⟩ (allc ⟨_, rfl, by simp⟩ (allc ⟨_, rfl, by simp⟩ (allc ⟨_, rfl, by simp⟩ (allc ⟨_, rfl, by simp⟩ (allc ⟨_, rfl, by simp⟩ alln)))))) (fun y ⟨x, k1, k2⟩ => by rw [k1]; exact q x k2)
theorem sel7 {a0 a1 a2 a3 a4 a5 a6 i : Int} {Q : PyData → Prop} (h0 : 0 ≤ i) (h1 : i < 7) (q : ∀ x, (x = a0 ∨ x = a1 ∨ x = a2 ∨ x = a3 ∨ x = a4 ∨ x = a5 ∨ x = a6) → Q (.int x)) : Ev (atI [.int a0, .int a1, .int a2, .int a3, .int a4, .int a5, .int a6] i) Q :=
  ev_atP (fun y => ∃ x : Int, y = .int x ∧ (x = a0 ∨ x = a1 ∨ x = a2 ∨ x = a3 ∨ x = a4 ∨ x = a5 ∨ x = a6)) h0 h1 (allc ⟨_, rfl, by simp⟩ (allc ⟨_, rfl, by simp⟩ (allc ⟨_, rfl, by simp⟩ (allc ⟨_, rfl, by simp⟩ (allc ⟨_, rfl, by simp⟩ (allc ⟨_, rfl, by simp⟩ (allc ⟨_, rfl, by simp⟩ alln))))))) (fun y ⟨x, k1, k2⟩ => by rw [k1]; exact q x k2)
theorem sel8 {a0 a1 a2 a3 a4 a5 a6 a7 i : Int} {Q : PyData → Prop} (h0 : 0 ≤ i) (h1 : i < 8) (q : ∀ x, (x = a0 ∨ x = a1 ∨ x = a2 ∨ x = a3 ∨ x = a4 ∨ x = a5 ∨ x = a6 ∨ x = a7) → Q (.int x)) : Ev (atI [.int a0, .int a1, .int a2, .int a3, .int a4, .int a5, .int a6, .int a7] i) Q :=
  ev_atP (fun y => ∃ x : Int, y = .int x ∧ (x = a0 ∨ x = a1 ∨ x = a2 ∨ x = a3 ∨ x = a4 ∨ x = a5 ∨ x = a6 ∨ x = a7)) h0 h1 (allc ⟨_, rfl, by simp⟩ (allc ⟨_, rfl, by simp⟩ (allc ⟨_, rfl, by simp⟩ (allc ⟨_, rfl, by simp⟩ (allc ⟨_, rfl, by simp⟩ (allc ⟨_, rfl, by simp⟩ (allc ⟨_, rfl, by simp⟩ (allc ⟨_, rfl, by simp⟩ alln)))))))) (fun y ⟨x, k1, k2⟩ => by rw [k1]; exact q x k2)
theorem mul_lt {a b A B : Int} (h0 : 0 ≤ a) (h1 : a < A) (h2 : 0 ≤ b) (h3 : b < B) : 0 ≤ a * b ∧ a * b < A * B := by
  refine ⟨Int.mul_nonneg h0 h2, ?_⟩
  have := Int.mul_le_mul_of_nonneg_right (show a ≤ A by omega) h2
  have h4 := Int.mul_lt_mul_of_pos_left h3 (show 0 < A by omega)
  omega
theorem mul_bd {a b A B : Int} (h0 : 0 ≤ a) (h1 : a < A) (h2 : -B < b) (h3 : b < B) : -(A * B) < a * b ∧ a * b < A * B := by
  have hB : 0 < B := by omega
  have h4 : a * b ≤ a * B := Int.mul_le_mul_of_nonneg_left (by omega) h0
  have h5 : a * (-B) ≤ a * b := Int.mul_le_mul_of_nonneg_left (by omega) h0
  have h6 : a * B < A * B := Int.mul_lt_mul_of_pos_right h1 hB
  rw [Int.mul_neg] at h5
  omega
theorem emod_le_self {a L : Int} (h : 0 ≤ a) (hL : 0 < L) : a % L ≤ a := by
  have h1 := Int.emod_add_mul_ediv a L
  have h2 := Int.mul_nonneg (show 0 ≤ L by omega) (Int.ediv_nonneg h (show 0 ≤ L by omega))
  omega
theorem mul_bd2 {a b A B : Int} (h0 : -A < a) (h1 : a < A) (h2 : -B < b) (h3 : b < B) : -(A * B) < a * b ∧ a * b < A * B := by
  by_cases h : 0 ≤ a
  · exact mul_bd h h1 h2 h3
  · have := mul_bd (a := -a) (A := A) (by omega) (by omega) h2 h3
    rw [Int.neg_mul] at this
    omega
/-! ### what the program's first defs answer -/
structure Good (w s r : Int) : Prop where
  w1 : 1 ≤ w
  w2 : w ≤ 40
  s1 : 1 ≤ s
  s2 : s ≤ w
  r1 : 0 ≤ r
  r2 : r ≤ w
/- how far a place's setters and carry reach -/
def edge (w s r p : Int) : Int := if w < p + s + r then w else p + s + r
theorem edge_pos {w s r p : Int} (h : Good w s r) (h0 : 0 ≤ p) : 1 ≤ edge w s r p ∧ edge w s r p ≤ w ∧ edge w s r p ≤ 40 := by
  obtain ⟨h1, h2, h3, h4, h5, h6⟩ := h
  unfold edge
  split <;> omega
theorem nic_two {a b : Int} (h1 : -(10 ^ 250) < a) (h2 : a < 10 ^ 250) (h3 : -(10 ^ 250) < b) (h4 : b < 10 ^ 250) : Nic 1 527 (.list [.int a, .int b]) :=
  nic_list (n := 260) (allc (nic_int a h1 h2) (allc (nic_int b h3 h4) alln))
theorem nic_mc {w s r : Int} (h : Good w s r) : Nic 1 789 (Mc w s r) := by
  obtain ⟨h1, h2, h3, h4, h5, h6⟩ := h
  exact nic_tup (n := 260) (allc (nic_int w (by omega) (by omega)) (allc (nic_int s (by omega) (by omega)) (allc (nic_int r (by omega) (by omega)) alln)))
theorem ev_eqd {d : PyData} {k n : Nat} {B : Bool → Prop} (h : Nic k n d) (hk : k ≤ 64) (q : B true) : Ev (eqD d d) B := by
  cases d with
  | none => exact ⟨_, rfl, q⟩
  | bool b => exact ⟨_, rfl, by simpa using q⟩
  | int b => exact ⟨_, rfl, by simpa using q⟩
  | str b => exact ⟨_, rfl, by simpa using q⟩
  | list l => rw [v_eqll, h.refl]; exact ⟨⟨h.shaped hk, h.shaped hk⟩, q⟩
  | tuple l => rw [v_eqtt, h.refl]; exact ⟨⟨h.shaped hk, h.shaped hk⟩, q⟩
  | dict l => have := h.nd; simp [PyData.hasDict] at this
theorem eqvA_refl {k n : Nat} {l : List PyData} (h : Nic k n (.list l)) : PyData.eqvAll l l = true := by
  have := h.refl
  simpa only [PyData.eqv] using this
theorem eqvT_refl {k n : Nat} {l : List PyData} (h : Nic k n (.tuple l)) : PyData.eqvAll l l = true := by
  have := h.refl
  simpa only [PyData.eqv] using this
/- what a lending leaves as it was -/
def Jk (q : Sl) : Prop := unl1 false q q = some q
/- no list of one's own -/
def Cm (q : Sl) : Prop := (match some q with | some (.bx .l _) => false | _ => true) = true
theorem cm_im (d : PyData) : Cm (.im d) := rfl
theorem cm_no : Cm .no := rfl
theorem jk_im (d : PyData) : Jk (.im d) := rfl
theorem jk_no : Jk .no := rfl
theorem jk_ow {d : List PyData} (h : nolAll d = true) : Jk (.bx .l d) := by
  show (if false = true then some (Sl.bx .l d) else if nolAll d = true then some (Sl.bx .l d) else none) = _
  rw [if_neg Bool.false_ne_true, if_pos h]
theorem enum_get {ds : List PyData} {i : Nat} {d : PyData} (h : (enumD ds)[i]? = some d) : ∃ e, ds[i]? = some e ∧ d = .tuple [.int i, e] := by
  unfold enumD at h
  rw [List.getElem?_map] at h
  obtain ⟨p, hp, rfl⟩ := Option.map_eq_some_iff.mp h
  rw [List.getElem?_zipIdx] at hp
  obtain ⟨e, he, rfl⟩ := Option.map_eq_some_iff.mp hp
  exact ⟨e, he, by simp⟩
theorem take_snoc {α : Type} {l : List α} {i : Nat} {a : α} (h : l[i]? = some a) : l.take (i + 1) = l.take i ++ [a] := by
  obtain ⟨hi, e⟩ := List.getElem?_eq_some_iff.mp h
  rw [List.take_add_one, h]; rfl
/-! ### the draws of the tank -/
def Jar (m : Nat) (j : List PyData) : Prop := ∃ a b c : Int, j = [.int a, .int b, .int c] ∧ 0 ≤ a ∧ 0 ≤ b ∧ b < 10 ^ 40 ∧ 0 ≤ c ∧ c ≤ m
theorem Jar.mono {m n : Nat} {j : List PyData} (h : Jar m j) (g : m ≤ n) : Jar n j := by
  obtain ⟨a, b, c, rfl, h1, h2, h3, h4, h5⟩ := h
  exact ⟨a, b, c, rfl, h1, h2, h3, h4, by omega⟩
theorem Jar.nol {m : Nat} {j : List PyData} (h : Jar m j) : nolAll j = true := by
  obtain ⟨a, b, c, rfl, _⟩ := h
  simp [nolAll, nolD]
theorem tap_spec {m : Nat} {j : List PyData} {n : Int} (hj : Jar m j) (hm : m ≤ 10 ^ 15) (hn : 0 < n) (hn2 : n < 10 ^ 245) :
    Ev (m_tap [.bx .l j, .im (.int n)]) fun y => ∃ r j', y = (.im (.int r), [.bx .l j', .im (.int n)]) ∧ 0 ≤ r ∧ r < n ∧ Jar (m + 1) j' := by
  obtain ⟨a, b, c, rfl, h1, h2, h3, h4, h5⟩ := hj
  unfold m_tap
  walk_at "go"
  refine br_mk (fun h => ?_) fun h => ?_
  · walk_at "go"
    exact ⟨_, _, rfl, Int.emod_nonneg _ (by omega), Int.emod_lt_of_pos _ hn, _, _, _, rfl, Int.ediv_nonneg h1 (by omega), h2, h3, h4, by omega⟩
  · walk_at "go"
    exact ⟨_, _, rfl, Int.emod_nonneg _ (by omega), Int.emod_lt_of_pos _ hn, _, _, _, rfl, h1, h2, h3, by omega, by omega⟩
theorem tank_spec {ns : List Int} {i : Int} (h0 : 0 ≤ i) (h1 : i < 1000) :
    Ev (m_tank [.fz (ns.map PyData.int), .im (.int i)]) fun y => ∃ j, y = (.bx .l j, [.fz (ns.map PyData.int), .im (.int i)]) ∧ Jar 0 j := by
  unfold m_tank
  walk_at "go"
  refine br_mk (fun h => ?_) fun h => ?_
  · walk_at "go"
    refine ev_atP (fun d => ∃ g, d = .int g) h0 (by simpa using h) (fun d hd => ?_) fun d hd => ?_
    · obtain ⟨g, _, rfl⟩ := List.mem_map.mp hd
      exact ⟨g, rfl⟩
    · obtain ⟨g, rfl⟩ := hd
      walk_at "go"
      exact ⟨_, rfl, _, _, _, rfl, by omega, by omega, by omega, by omega, by omega⟩
  · walk_at "go"
    exact ⟨_, rfl, _, _, _, rfl, by omega, by omega, by omega, by omega, by omega⟩
end CK
namespace CK
open PySem L2
local macro_rules | `(tactic| walk_at "ev") => `(tactic| simp only [↓ev_bind, ↓ev_some, ↓ev_none, ↓ev_ite, ↓ev_gd, ↓br_true, ↓br_false, ↓gd_true, ↓ev_rdN, ↓ev_dN, ↓ev_dC, ↓ev_dRaw, ↓ev_op1n, ↓ev_op1e, ↓ev_op2nn, ↓ev_op2ne, ↓ev_op2en, ↓ev_op2ee, ↓ev_tOfE, ↓ev_tTrue, ↓ev_tAnd, ↓ev_tOr, ↓ev_tNot, ↓ev_eOfT, ↓ev_dIfE, ↓ev_dAnd, ↓ev_dOr, ↓ev_dNot, ↓ev_dCh, ↓ev_sSeq, ↓kseq_nx, ↓kseq_rt, ↓kseq_bk, ↓kseq_ct, ↓ev_sNext, ↓ev_sBrk, ↓ev_sCt, ↓ev_sStuck, ↓ev_sExpr, ↓ev_sRet, ↓ev_sSet, ↓ev_sIf, ↓ev_sAsg, ↓ev_sPar, ↓ev_sPar3, ↓ev_sRetV, ↓ev_tgN, ↓ev_tgT, ↓ev_tgNil, ↓ev_tgCons, ↓ev_fnD, ↓kRet_rt, ↓kRet_nx, ↓back_nil, ↓back_cons, ↓ev_dCall, ↓ev_agNil, ↓ev_agIo, ↓ev_agEx, ↓ev_agSNil, ↓ev_agSIo, ↓ev_agSEx, ↓ev_fnP, ↓ev_elNil, ↓ev_elOne, ↓ev_elStar, ↓ev_dLst, ↓ev_dTup, ↓ev_dLenF, ↓ev_dIxF, ↓ev_dSlF, ↓ev_prtN, ↓ev_prtS, ↓ev_dSlN, ↓ev_dSlE, ↓ev_dApp, ↓ev_dExt, ↓ev_sSto, ↓ev_sAug, ↓ev_dLend, ↓unl_nil, ↓unl_cons, ↓unl1_owo, ↓unl1_owi, ↓ev_itSeq, ↓ev_itR1, ↓ev_itR2, ↓ev_itR3, ↓ev_itEn, ↓ev_itZip, ↓ev_sFor, ↓kLoop_nx, ↓kLoop_ct, ↓kLoop_bk, ↓kLoop_rt, ↓ev_loopNil, ↓ev_dLc', ↓ev_lcNil, ↓ev_dLR1, ↓ev_dLR2, ↓ev_dCh3, ↓ev_dIdx, ↓ev_tgS, ↓ev_sPick, ↓ev_dFld, ↓ev_sFldD, ↓ev_dMeth, ↓ev_dProp, ↓ev_dMake, ↓ev_dHide, ↓ev_dDicE, ↓ev_dDicN, ↓ev_dDic1, ↓ev_dDGet, ↓ev_dDIn, ↓ev_sDPutD, ↓ev_dSortK, ↓ev_dMPl, ↓ev_dMMeth, ↓ev_dCallM, ↓kThru_nx, ↓ev_sMemo, ↓ev_dUnl, ↓ev_sPar4, ↓ev_dOrL, ↓ev_dDFrz, ↓ev_tgTL, ↓ev_dShr, ↓ev_dIsX, ↓ev_dFldX, ↓ev_sCpy, ↓ev_dNoneX, rdS_im, rdS_ow, dNS_im, dNS_ow, dNS_fz, dNS_raw, sh_im, sh_ow, arg_im, arg_ow, arg_fz, arg_raw, bool_bl, intOf_int, retS_im, retS_ow, retS_fz, retS_raw, okR_im, okR_fz, okR_raw, okR_ow, isOw_ow, isOw_mo, bkS_im, bkS_fz, bkS_raw, owS_ow, ioS_bx, ioS_mo, agB_io, agB_ex, agB_nil, itemsD_l, itemsD_t, fzS_fz, listS_l, iiS_i, frz1_eq, frzS_ow, frzS_im, frzS_no, lendIn_nil, lendIn_cons, unl1_im, unl1_no, unl1_fz, unl1_raw, unl1_owt, nolR_im, nolR_ow, nolD_int, nolD_str, nolD_bool, nolD_none, nolD_tup, nolAll_nil, nolAll_cons, nolAll_ints, nolAll_app, v_add, v_adds, v_addl, v_addt, v_sub, v_mul, v_mull, v_muls, v_mod, v_fdiv, v_pow, v_neg, v_bl, v_nb, v_lt, v_le, v_gt, v_ge, v_ne, v_isn, v_eqi, v_eqs, v_eqb, v_eqn, v_eqin, v_eqni, v_eqll, v_eqtt, v_isnn, v_isin, v_issn, v_isbn, v_isln, v_istn, v_isbb, v_abs, v_max, v_min, v_lenl, v_lent, v_lens, v_inti, v_intb, v_ints, v_stri, v_strs, v_listl, v_listt, v_tupl, v_tupt, v_sum, v_maxl, v_minl, v_sorted, v_any, v_all, v_r3, v_rev, v_divmod, v_ixl, v_ixt, v_ixs, v_sll, v_slt, v_sls, v_isi, cls_none, cls_bool, cls_int, cls_str, cls_list, cls_tuple, seqD_l, seqD_t, seqD_s, lstS_im, lstS_ow, v_usort, v_meml, v_memt, v_nmem, objS_o, makeS_o, hide_nil, hide_cons, hideS_o, hideS_l, hideS_im, hideS_fz, hideS_no, unh_nil, unh_cons, unS_o, unS_l, unS_im, unS_fz, unS_no, str_kc, str_ne, keyOf_int, keyOf_str, dicS_d, v_isiE, clsE_dict, clsE_none, clsE_bool, clsE_int, clsE_str, clsE_list, clsE_tuple, kin_dict_int, kin_dict_bool, kin_dict_str, kin_dict_list, kin_dict_tuple, moS_mo, moIn_nil, moIn_mo, moIn_im, moIn_bx, moIn_no, moIn_fz, moIn_raw, ownL_l, imS_im, v_ltl, v_ixkl, v_ixkt, v_ixkd, moX_mo, nmX_er, fldX_er, noneX_mo, noneX_im, xraise, xno, kin_int_int, kin_int_bool, kin_int_str, kin_int_list, kin_int_tuple, kin_bool_int, kin_bool_bool, kin_bool_str, kin_bool_list, kin_bool_tuple, kin_str_int, kin_str_bool, kin_str_str, kin_str_list, kin_str_tuple, kin_list_int, kin_list_bool, kin_list_str, kin_list_list, kin_list_tuple, kin_tuple_int, kin_tuple_bool, kin_tuple_str, kin_tuple_list, kin_tuple_tuple, kin_NoneType_int, kin_NoneType_bool, kin_NoneType_str, kin_NoneType_list, kin_NoneType_tuple, at0, at1, at2, at3, at4, at5, ix0, ix1, ix2, eq_self, mc0, mc1, mc2, one_S, zero_S, repS_dig, SX.S_len, S_catX, num_nat, digs_fold, List.length_replicate, List.length_map, Nat.one_mul, Nat.mul_one, Nat.zero_add, List.flatten_cons, List.flatten_nil, P62, LINE, Int.cast_ofNat_Int, PyData.eqv, PyData.eqvAll, Int.reduceEq, Int.reduceNe, Int.reduceLT, Int.reduceLE, Int.reduceGT, Int.reduceGE, Int.reduceBEq, Nat.reduceEqDiff, Nat.reduceLeDiff, Nat.reduceSub, beq_self_eq_true, Nat.reduceBEq, Bool.or_false, Bool.or_true, Bool.true_or, Bool.false_or, Bool.false_eq_true, reduceCtorEq, Int.reducePow, Int.reduceAdd, Int.reduceMul, Int.reduceSub, Int.reduceToNat, Int.reduceNeg, Nat.reduceAdd, Nat.reduceMul, Nat.reducePow, and_self, ite_true, ite_false, and_true, true_and, List.append_nil, List.getElem?_cons_zero, List.getElem?_cons_succ, List.getElem?_nil, List.set_cons_zero, List.set_cons_succ, List.set_nil, List.cons_append, List.nil_append, List.replicate_succ, List.replicate_zero, List.length_cons, List.length_nil, decide_eq_true_eq, decide_true, decide_false, Bool.not_true, Bool.not_false, Bool.not_not, List.zip_cons_cons, List.zip_nil_left, List.zip_nil_right, List.lookup_cons, agI, putD, List.filterMap_cons, List.filterMap_nil, allPlain, noOw, List.all_cons, List.all_nil, Bool.and_true, Bool.true_and, Bool.and_false, Bool.false_and, Bool.not_eq_true, Bool.not_eq_false, List.contains_cons, List.contains_nil, calmD, wipeD, unwipe, Option.getD_some, Option.getD_none])
local macro_rules | `(tactic| walk_at "sz") => `(tactic| first | omega | exact lgm (by omega) (by omega) (by omega) (by omega) | exact lgf (by omega) (by omega) | exact lgp (by omega) (by omega) (by omega) (by omega) | exact lgs (by omega) (by omega) | exact lgv (by omega) (by omega) (by omega) | decide | exact ⟨rfl, rfl⟩)
local macro_rules | `(tactic| walk_at "dis") => `(tactic| first | assumption | omega)
local macro_rules | `(tactic| walk_at "kn") => `(tactic| simp (discharger := walk_at "dis") only [ev_dDIn, ev_dDGet, keyOf_str])
local macro_rules | `(tactic| walk_at "go") => `(tactic| repeat (first | refine gd_mk (by walk_at "sz") ?_ | walk_at "ev" | walk_at "kn"))
theorem ev_dTM {δ : List Sl} {S : Sl × List Sl → Prop} (f : Str → PyData → Option Sl) (F1 F2 : Ex) : Ev (dTM f F1 F2 δ) S = Ev (F1 δ) fun x => Ev (strOf x.1) fun a => Ev (F2 x.2) fun y => Ev y.1.sh fun e => Ev (f a e) fun r => S (r, y.2) := by simp only [e0, b0, g0, dTM, x_bind, x_some]
theorem strOf_s (a : Str) : strOf (.im (.str a)) = some a := rfl
theorem v_join {T : Sl → Prop} (a : Str) (ds : List PyData) : Ev (joinF a (.list ds)) T = Ev (strsD ds) fun ys => Gd ((ys.map (·.length)).sum + ys.length * a.length ≤ LINE) (T (.im (.str (Txt.join a ys)))) := by simp only [e0, b0, g0, joinF, x_bind, x_gd, x_some]
theorem strsD_map : ∀ (ws : List Str), strsD (ws.map PyData.str) = some ws
  | [] => rfl
  | a :: r => by
    show (strsD (r.map PyData.str)).bind (fun x => some (a :: x)) = _
    rw [strsD_map r]; rfl
theorem ev_dExN {δ : List Sl} {S : Sl × List Sl → Prop} (n : Str) (F : Ex) : Ev (dExN n F δ) S = Ev (F δ) fun y => S (.im (exP n), y.2) := by simp only [e0, b0, g0, dExN, x_bind, x_some]
theorem ev_dExF {δ : List Sl} {S : Sl × List Sl → Prop} (n f : Str) (F : Ex) : Ev (dExF n f F δ) S = Ev (F δ) fun y => Ev y.1.sh fun d => S (.im (exF n f d), y.2) := by simp only [e0, b0, g0, dExF, x_bind, x_some]
theorem ev_dIsE {δ : List Sl} {S : Sl × List Sl → Prop} (Ns t : List Str) (F : Ex) : Ev (dIsE Ns t F δ) S = Ev (F δ) fun y => Ev y.1.sh fun d => Ev (nmE d) fun n => Gd (Ns.contains n = true) (S (.im (.bool (t.contains n)), y.2)) := by simp only [e0, b0, g0, dIsE, x_bind, x_gd, x_some]
theorem ev_dFldE {δ : List Sl} {S : Sl × List Sl → Prop} (Ns : List Str) (f : Str) (F : Ex) : Ev (dFldE Ns f F δ) S = Ev (F δ) fun y => Ev y.1.sh fun d => Ev (nmE d) fun n => Gd (Ns.contains n = true) (Ev (fdE f d) fun x => S (.im x, y.2)) := by simp only [e0, b0, g0, dFldE, x_bind, x_gd, x_some]
theorem nmE_p (n : Str) : nmE (exP n) = some n := rfl
theorem nmE_f (n f : Str) (d : PyData) : nmE (exF n f d) = some n := rfl
theorem fdE_f (n f : Str) (d : PyData) : fdE f (exF n f d) = some d := if_pos rfl
local macro_rules | `(tactic| walk_at "ev") => `(tactic| simp only [↓ev_bind, ↓ev_some, ↓ev_none, ↓ev_ite, ↓ev_gd, ↓br_true, ↓br_false, ↓gd_true, ↓ev_rdN, ↓ev_dN, ↓ev_dC, ↓ev_dRaw, ↓ev_op1n, ↓ev_op1e, ↓ev_op2nn, ↓ev_op2ne, ↓ev_op2en, ↓ev_op2ee, ↓ev_tOfE, ↓ev_tTrue, ↓ev_tAnd, ↓ev_tOr, ↓ev_tNot, ↓ev_eOfT, ↓ev_dIfE, ↓ev_dAnd, ↓ev_dOr, ↓ev_dNot, ↓ev_dCh, ↓ev_sSeq, ↓kseq_nx, ↓kseq_rt, ↓kseq_bk, ↓kseq_ct, ↓ev_sNext, ↓ev_sBrk, ↓ev_sCt, ↓ev_sStuck, ↓ev_sExpr, ↓ev_sRet, ↓ev_sSet, ↓ev_sIf, ↓ev_sAsg, ↓ev_sPar, ↓ev_sPar3, ↓ev_sRetV, ↓ev_tgN, ↓ev_tgT, ↓ev_tgNil, ↓ev_tgCons, ↓ev_fnD, ↓kRet_rt, ↓kRet_nx, ↓back_nil, ↓back_cons, ↓ev_dCall, ↓ev_agNil, ↓ev_agIo, ↓ev_agEx, ↓ev_agSNil, ↓ev_agSIo, ↓ev_agSEx, ↓ev_fnP, ↓ev_elNil, ↓ev_elOne, ↓ev_elStar, ↓ev_dLst, ↓ev_dTup, ↓ev_dLenF, ↓ev_dIxF, ↓ev_dSlF, ↓ev_prtN, ↓ev_prtS, ↓ev_dSlN, ↓ev_dSlE, ↓ev_dApp, ↓ev_dExt, ↓ev_sSto, ↓ev_sAug, ↓ev_dLend, ↓unl_nil, ↓unl_cons, ↓unl1_owo, ↓unl1_owi, ↓ev_itSeq, ↓ev_itR1, ↓ev_itR2, ↓ev_itR3, ↓ev_itEn, ↓ev_itZip, ↓ev_sFor, ↓kLoop_nx, ↓kLoop_ct, ↓kLoop_bk, ↓kLoop_rt, ↓ev_loopNil, ↓ev_dLc', ↓ev_lcNil, ↓ev_dLR1, ↓ev_dLR2, ↓ev_dCh3, ↓ev_dIdx, ↓ev_tgS, ↓ev_sPick, ↓ev_dFld, ↓ev_sFldD, ↓ev_dMeth, ↓ev_dProp, ↓ev_dMake, ↓ev_dHide, ↓ev_dDicE, ↓ev_dDicN, ↓ev_dDic1, ↓ev_dDGet, ↓ev_dDIn, ↓ev_sDPutD, ↓ev_dSortK, ↓ev_dMPl, ↓ev_dMMeth, ↓ev_dCallM, ↓kThru_nx, ↓ev_sMemo, ↓ev_dUnl, ↓ev_sPar4, ↓ev_dOrL, ↓ev_dDFrz, ↓ev_tgTL, ↓ev_dShr, ↓ev_dIsX, ↓ev_dFldX, ↓ev_sCpy, ↓ev_dNoneX, rdS_im, rdS_ow, dNS_im, dNS_ow, dNS_fz, dNS_raw, sh_im, sh_ow, arg_im, arg_ow, arg_fz, arg_raw, bool_bl, intOf_int, retS_im, retS_ow, retS_fz, retS_raw, okR_im, okR_fz, okR_raw, okR_ow, isOw_ow, isOw_mo, bkS_im, bkS_fz, bkS_raw, owS_ow, ioS_bx, ioS_mo, agB_io, agB_ex, agB_nil, itemsD_l, itemsD_t, fzS_fz, listS_l, iiS_i, frz1_eq, frzS_ow, frzS_im, frzS_no, lendIn_nil, lendIn_cons, unl1_im, unl1_no, unl1_fz, unl1_raw, unl1_owt, nolR_im, nolR_ow, nolD_int, nolD_str, nolD_bool, nolD_none, nolD_tup, nolAll_nil, nolAll_cons, nolAll_ints, nolAll_app, v_add, v_adds, v_addl, v_addt, v_sub, v_mul, v_mull, v_muls, v_mod, v_fdiv, v_pow, v_neg, v_bl, v_nb, v_lt, v_le, v_gt, v_ge, v_ne, v_isn, v_eqi, v_eqs, v_eqb, v_eqn, v_eqin, v_eqni, v_eqll, v_eqtt, v_isnn, v_isin, v_issn, v_isbn, v_isln, v_istn, v_isbb, v_abs, v_max, v_min, v_lenl, v_lent, v_lens, v_inti, v_intb, v_ints, v_stri, v_strs, v_listl, v_listt, v_tupl, v_tupt, v_sum, v_maxl, v_minl, v_sorted, v_any, v_all, v_r3, v_rev, v_divmod, v_ixl, v_ixt, v_ixs, v_sll, v_slt, v_sls, v_isi, cls_none, cls_bool, cls_int, cls_str, cls_list, cls_tuple, seqD_l, seqD_t, seqD_s, lstS_im, lstS_ow, v_usort, v_meml, v_memt, v_nmem, objS_o, makeS_o, hide_nil, hide_cons, hideS_o, hideS_l, hideS_im, hideS_fz, hideS_no, unh_nil, unh_cons, unS_o, unS_l, unS_im, unS_fz, unS_no, str_kc, str_ne, keyOf_int, keyOf_str, dicS_d, v_isiE, clsE_dict, clsE_none, clsE_bool, clsE_int, clsE_str, clsE_list, clsE_tuple, kin_dict_int, kin_dict_bool, kin_dict_str, kin_dict_list, kin_dict_tuple, moS_mo, moIn_nil, moIn_mo, moIn_im, moIn_bx, moIn_no, moIn_fz, moIn_raw, ownL_l, imS_im, v_ltl, v_ixkl, v_ixkt, v_ixkd, moX_mo, nmX_er, fldX_er, noneX_mo, noneX_im, xraise, xno, kin_int_int, kin_int_bool, kin_int_str, kin_int_list, kin_int_tuple, kin_bool_int, kin_bool_bool, kin_bool_str, kin_bool_list, kin_bool_tuple, kin_str_int, kin_str_bool, kin_str_str, kin_str_list, kin_str_tuple, kin_list_int, kin_list_bool, kin_list_str, kin_list_list, kin_list_tuple, kin_tuple_int, kin_tuple_bool, kin_tuple_str, kin_tuple_list, kin_tuple_tuple, kin_NoneType_int, kin_NoneType_bool, kin_NoneType_str, kin_NoneType_list, kin_NoneType_tuple, at0, at1, at2, at3, at4, at5, ix0, ix1, ix2, eq_self, mc0, mc1, mc2, one_S, zero_S, repS_dig, SX.S_len, S_catX, num_nat, digs_fold, List.length_replicate, List.length_map, Nat.one_mul, Nat.mul_one, Nat.zero_add, List.flatten_cons, List.flatten_nil, P62, LINE, Int.cast_ofNat_Int, PyData.eqv, PyData.eqvAll, Int.reduceEq, Int.reduceNe, Int.reduceLT, Int.reduceLE, Int.reduceGT, Int.reduceGE, Int.reduceBEq, Nat.reduceEqDiff, Nat.reduceLeDiff, Nat.reduceSub, beq_self_eq_true, Nat.reduceBEq, Bool.or_false, Bool.or_true, Bool.true_or, Bool.false_or, Bool.false_eq_true, reduceCtorEq, Int.reducePow, Int.reduceAdd, Int.reduceMul, Int.reduceSub, Int.reduceToNat, Int.reduceNeg, Nat.reduceAdd, Nat.reduceMul, Nat.reducePow, and_self, ite_true, ite_false, and_true, true_and, List.append_nil, List.getElem?_cons_zero, List.getElem?_cons_succ, List.getElem?_nil, List.set_cons_zero, List.set_cons_succ, List.set_nil, List.cons_append, List.nil_append, List.replicate_succ, List.replicate_zero, List.length_cons, List.length_nil, decide_eq_true_eq, decide_true, decide_false, Bool.not_true, Bool.not_false, Bool.not_not, List.zip_cons_cons, List.zip_nil_left, List.zip_nil_right, List.lookup_cons, agI, putD, List.filterMap_cons, List.filterMap_nil, allPlain, noOw, List.all_cons, List.all_nil, Bool.and_true, Bool.true_and, Bool.and_false, Bool.false_and, Bool.not_eq_true, Bool.not_eq_false, List.contains_cons, List.contains_nil, calmD, wipeD, unwipe, Option.getD_some, Option.getD_none])
local macro_rules | `(tactic| walk_at "sz") => `(tactic| first | omega | exact lgm (by omega) (by omega) (by omega) (by omega) | exact lgf (by omega) (by omega) | exact lgp (by omega) (by omega) (by omega) (by omega) | exact lgs (by omega) (by omega) | exact lgv (by omega) (by omega) (by omega) | decide | exact ⟨rfl, rfl⟩)
local macro_rules | `(tactic| walk_at "dis") => `(tactic| first | assumption | omega)
local macro_rules | `(tactic| walk_at "kn") => `(tactic| simp (discharger := walk_at "dis") only [ev_dDIn, ev_dDGet, keyOf_str, ev_dTM, strOf_s, v_join, ev_dExN, ev_dExF, ev_dIsE, ev_dFldE, nmE_p, nmE_f, fdE_f])
local macro_rules | `(tactic| walk_at "go") => `(tactic| repeat (first | refine gd_mk (by walk_at "sz") ?_ | walk_at "ev" | walk_at "kn"))
local macro_rules | `(tactic| walk_at "sz") => `(tactic| first | assumption | (simpa only [NSx, List.contains_cons, List.contains_nil, Bool.or_false] using (by assumption : NSx.contains _ = true)))
/- the classes, in the law's own sequence -/
def nd00 : List Str := ["InvalidSetting", "InvalidRegister", "InvalidPlace", "InvalidTurns", "InvalidNumber", "Impossible", "NothingToUndo", "InvalidCommand", "InvalidMachine", "InvalidCranks", "InvalidCounter", "InvalidPlan", "InvalidSyntax"]
/- one of each class -/
def errs00 (d : PyData) : List PyData := [exP "InvalidSetting", exP "InvalidRegister", exP "InvalidPlace", exP "InvalidTurns", exP "InvalidNumber", exP "Impossible", exP "NothingToUndo", exP "InvalidCommand", exF "InvalidMachine" "index" d, exF "InvalidCranks" "index" d, exF "InvalidCounter" "index" d, exF "InvalidPlan" "index" d, exF "InvalidSyntax" "word" d]
/- of which of the classes an error is -/
def kinB (n : Str) : List Bool := nd00.map fun m => n == m
def rowB (k : Nat) : List Bool := (List.range 13).map fun j : Nat => decide (j = k)
def kin00 (n : Str) : List PyData := (kinB n).map PyData.bool
def row00 (k : Nat) : List PyData := (rowB k).map PyData.bool
theorem made_eq (t : Str) (d : PyData) : Ev (m_made [.im (.str t), .im d]) fun y => y = (.bx .l (errs00 d), [.im (.str t), .im d]) := by
  unfold m_made
  walk_at "go"
  rfl
theorem kinds_p {n : Str} (h : NSx.contains n = true) : Ev (m_kinds [.im (exP n)]) fun y => y = (.bx .l (kin00 n), [.im (exP n)]) := by
  unfold m_kinds
  walk_at "go"
  simp only [kin00, kinB, nd00, List.map_cons, List.map_nil]
theorem kinds_f {n f : Str} {d : PyData} (h : NSx.contains n = true) : Ev (m_kinds [.im (exF n f d)]) fun y => y = (.bx .l (kin00 n), [.im (exF n f d)]) := by
  unfold m_kinds
  walk_at "go"
  simp only [kin00, kinB, nd00, List.map_cons, List.map_nil]
/- the error at a place of the row -/
theorem at00 (d : PyData) {k : Nat} (hk : k < 13) : ∃ e n, (errs00 d)[k]? = some e ∧ nd00[k]? = some n ∧ (e = exP n ∨ ∃ f, e = exF n f d) := by
  match k, hk with
  | 0, _ => exact ⟨_, _, rfl, rfl, .inl rfl⟩
  | 1, _ => exact ⟨_, _, rfl, rfl, .inl rfl⟩
  | 2, _ => exact ⟨_, _, rfl, rfl, .inl rfl⟩
  | 3, _ => exact ⟨_, _, rfl, rfl, .inl rfl⟩
  | 4, _ => exact ⟨_, _, rfl, rfl, .inl rfl⟩
  | 5, _ => exact ⟨_, _, rfl, rfl, .inl rfl⟩
  | 6, _ => exact ⟨_, _, rfl, rfl, .inl rfl⟩
  | 7, _ => exact ⟨_, _, rfl, rfl, .inl rfl⟩
  | 8, _ => exact ⟨_, _, rfl, rfl, .inr ⟨_, rfl⟩⟩
  | 9, _ => exact ⟨_, _, rfl, rfl, .inr ⟨_, rfl⟩⟩
  | 10, _ => exact ⟨_, _, rfl, rfl, .inr ⟨_, rfl⟩⟩
  | 11, _ => exact ⟨_, _, rfl, rfl, .inr ⟨_, rfl⟩⟩
  | 12, _ => exact ⟨_, _, rfl, rfl, .inr ⟨_, rfl⟩⟩
theorem kin00_at {k : Nat} {n : Str} (h : nd00[k]? = some n) : NSx.contains n = true ∧ kinB n = rowB k := by
  have hk : k < 13 := (List.getElem?_eq_some_iff.mp h).1
  match k, hk with
  | 0, _ => cases h; exact ⟨by decide +kernel, by decide +kernel⟩
  | 1, _ => cases h; exact ⟨by decide +kernel, by decide +kernel⟩
  | 2, _ => cases h; exact ⟨by decide +kernel, by decide +kernel⟩
  | 3, _ => cases h; exact ⟨by decide +kernel, by decide +kernel⟩
  | 4, _ => cases h; exact ⟨by decide +kernel, by decide +kernel⟩
  | 5, _ => cases h; exact ⟨by decide +kernel, by decide +kernel⟩
  | 6, _ => cases h; exact ⟨by decide +kernel, by decide +kernel⟩
  | 7, _ => cases h; exact ⟨by decide +kernel, by decide +kernel⟩
  | 8, _ => cases h; exact ⟨by decide +kernel, by decide +kernel⟩
  | 9, _ => cases h; exact ⟨by decide +kernel, by decide +kernel⟩
  | 10, _ => cases h; exact ⟨by decide +kernel, by decide +kernel⟩
  | 11, _ => cases h; exact ⟨by decide +kernel, by decide +kernel⟩
  | 12, _ => cases h; exact ⟨by decide +kernel, by decide +kernel⟩
/- no class of the row -/
theorem kin00_base : NSx.contains "CrankError" = true ∧ kin00 "CrankError" = (List.replicate 13 [PyData.bool false]).flatten := ⟨by decide +kernel, by
  unfold kin00
  rw [show kinB "CrankError" = List.replicate 13 false by decide +kernel]
  rfl⟩
theorem nic_row (k : Nat) : Nic 1 (13 * 262 + 3) (.list (row00 k)) := by
  have := nic_list (k := 0) (n := 260) (ds := row00 k) fun d hd => by
    obtain ⟨j, _, rfl⟩ := List.mem_map.mp hd
    exact nic_bool _
  exact this.mono (by omega) (by simp [row00, rowB])
end CK
namespace CK
open PySem L2
local macro_rules | `(tactic| walk_at "ev") => `(tactic| simp only [↓ev_bind, ↓ev_some, ↓ev_none, ↓ev_ite, ↓ev_gd, ↓br_true, ↓br_false, ↓gd_true, ↓ev_rdN, ↓ev_dN, ↓ev_dC, ↓ev_dRaw, ↓ev_op1n, ↓ev_op1e, ↓ev_op2nn, ↓ev_op2ne, ↓ev_op2en, ↓ev_op2ee, ↓ev_tOfE, ↓ev_tTrue, ↓ev_tAnd, ↓ev_tOr, ↓ev_tNot, ↓ev_eOfT, ↓ev_dIfE, ↓ev_dAnd, ↓ev_dOr, ↓ev_dNot, ↓ev_dCh, ↓ev_sSeq, ↓kseq_nx, ↓kseq_rt, ↓kseq_bk, ↓kseq_ct, ↓ev_sNext, ↓ev_sBrk, ↓ev_sCt, ↓ev_sStuck, ↓ev_sExpr, ↓ev_sRet, ↓ev_sSet, ↓ev_sIf, ↓ev_sAsg, ↓ev_sPar, ↓ev_sPar3, ↓ev_sRetV, ↓ev_tgN, ↓ev_tgT, ↓ev_tgNil, ↓ev_tgCons, ↓ev_fnD, ↓kRet_rt, ↓kRet_nx, ↓back_nil, ↓back_cons, ↓ev_dCall, ↓ev_agNil, ↓ev_agIo, ↓ev_agEx, ↓ev_agSNil, ↓ev_agSIo, ↓ev_agSEx, ↓ev_fnP, ↓ev_elNil, ↓ev_elOne, ↓ev_elStar, ↓ev_dLst, ↓ev_dTup, ↓ev_dLenF, ↓ev_dIxF, ↓ev_dSlF, ↓ev_prtN, ↓ev_prtS, ↓ev_dSlN, ↓ev_dSlE, ↓ev_dApp, ↓ev_dExt, ↓ev_sSto, ↓ev_sAug, ↓ev_dLend, ↓unl_nil, ↓unl_cons, ↓unl1_owo, ↓unl1_owi, ↓ev_itSeq, ↓ev_itR1, ↓ev_itR2, ↓ev_itR3, ↓ev_itEn, ↓ev_itZip, ↓ev_sFor, ↓kLoop_nx, ↓kLoop_ct, ↓kLoop_bk, ↓kLoop_rt, ↓ev_loopNil, ↓ev_dLc', ↓ev_lcNil, ↓ev_dLR1, ↓ev_dLR2, ↓ev_dCh3, ↓ev_dIdx, ↓ev_tgS, ↓ev_sPick, ↓ev_dFld, ↓ev_sFldD, ↓ev_dMeth, ↓ev_dProp, ↓ev_dMake, ↓ev_dHide, ↓ev_dDicE, ↓ev_dDicN, ↓ev_dDic1, ↓ev_dDGet, ↓ev_dDIn, ↓ev_sDPutD, ↓ev_dSortK, ↓ev_dMPl, ↓ev_dMMeth, ↓ev_dCallM, ↓kThru_nx, ↓ev_sMemo, ↓ev_dUnl, ↓ev_sPar4, ↓ev_dOrL, ↓ev_dDFrz, ↓ev_tgTL, ↓ev_dShr, ↓ev_dIsX, ↓ev_dFldX, ↓ev_sCpy, ↓ev_dNoneX, rdS_im, rdS_ow, dNS_im, dNS_ow, dNS_fz, dNS_raw, sh_im, sh_ow, arg_im, arg_ow, arg_fz, arg_raw, bool_bl, intOf_int, retS_im, retS_ow, retS_fz, retS_raw, okR_im, okR_fz, okR_raw, okR_ow, isOw_ow, isOw_mo, bkS_im, bkS_fz, bkS_raw, owS_ow, ioS_bx, ioS_mo, agB_io, agB_ex, agB_nil, itemsD_l, itemsD_t, fzS_fz, listS_l, iiS_i, frz1_eq, frzS_ow, frzS_im, frzS_no, lendIn_nil, lendIn_cons, unl1_im, unl1_no, unl1_fz, unl1_raw, unl1_owt, nolR_im, nolR_ow, nolD_int, nolD_str, nolD_bool, nolD_none, nolD_tup, nolAll_nil, nolAll_cons, nolAll_ints, nolAll_app, v_add, v_adds, v_addl, v_addt, v_sub, v_mul, v_mull, v_muls, v_mod, v_fdiv, v_pow, v_neg, v_bl, v_nb, v_lt, v_le, v_gt, v_ge, v_ne, v_isn, v_eqi, v_eqs, v_eqb, v_eqn, v_eqin, v_eqni, v_eqll, v_eqtt, v_isnn, v_isin, v_issn, v_isbn, v_isln, v_istn, v_isbb, v_abs, v_max, v_min, v_lenl, v_lent, v_lens, v_inti, v_intb, v_ints, v_stri, v_strs, v_listl, v_listt, v_tupl, v_tupt, v_sum, v_maxl, v_minl, v_sorted, v_any, v_all, v_r3, v_rev, v_divmod, v_ixl, v_ixt, v_ixs, v_sll, v_slt, v_sls, v_isi, cls_none, cls_bool, cls_int, cls_str, cls_list, cls_tuple, seqD_l, seqD_t, seqD_s, lstS_im, lstS_ow, v_usort, v_meml, v_memt, v_nmem, objS_o, makeS_o, hide_nil, hide_cons, hideS_o, hideS_l, hideS_im, hideS_fz, hideS_no, unh_nil, unh_cons, unS_o, unS_l, unS_im, unS_fz, unS_no, str_kc, str_ne, keyOf_int, keyOf_str, dicS_d, v_isiE, clsE_dict, clsE_none, clsE_bool, clsE_int, clsE_str, clsE_list, clsE_tuple, kin_dict_int, kin_dict_bool, kin_dict_str, kin_dict_list, kin_dict_tuple, moS_mo, moIn_nil, moIn_mo, moIn_im, moIn_bx, moIn_no, moIn_fz, moIn_raw, ownL_l, imS_im, v_ltl, v_ixkl, v_ixkt, v_ixkd, moX_mo, nmX_er, fldX_er, noneX_mo, noneX_im, xraise, xno, kin_int_int, kin_int_bool, kin_int_str, kin_int_list, kin_int_tuple, kin_bool_int, kin_bool_bool, kin_bool_str, kin_bool_list, kin_bool_tuple, kin_str_int, kin_str_bool, kin_str_str, kin_str_list, kin_str_tuple, kin_list_int, kin_list_bool, kin_list_str, kin_list_list, kin_list_tuple, kin_tuple_int, kin_tuple_bool, kin_tuple_str, kin_tuple_list, kin_tuple_tuple, kin_NoneType_int, kin_NoneType_bool, kin_NoneType_str, kin_NoneType_list, kin_NoneType_tuple, at0, at1, at2, at3, at4, at5, ix0, ix1, ix2, eq_self, mc0, mc1, mc2, one_S, zero_S, repS_dig, SX.S_len, S_catX, num_nat, digs_fold, List.length_replicate, List.length_map, Nat.one_mul, Nat.mul_one, Nat.zero_add, List.flatten_cons, List.flatten_nil, P62, LINE, Int.cast_ofNat_Int, PyData.eqv, PyData.eqvAll, Int.reduceEq, Int.reduceNe, Int.reduceLT, Int.reduceLE, Int.reduceGT, Int.reduceGE, Int.reduceBEq, Nat.reduceEqDiff, Nat.reduceLeDiff, Nat.reduceSub, beq_self_eq_true, Nat.reduceBEq, Bool.or_false, Bool.or_true, Bool.true_or, Bool.false_or, Bool.false_eq_true, reduceCtorEq, Int.reducePow, Int.reduceAdd, Int.reduceMul, Int.reduceSub, Int.reduceToNat, Int.reduceNeg, Nat.reduceAdd, Nat.reduceMul, Nat.reducePow, and_self, ite_true, ite_false, and_true, true_and, List.append_nil, List.getElem?_cons_zero, List.getElem?_cons_succ, List.getElem?_nil, List.set_cons_zero, List.set_cons_succ, List.set_nil, List.cons_append, List.nil_append, List.replicate_succ, List.replicate_zero, List.length_cons, List.length_nil, decide_eq_true_eq, decide_true, decide_false, Bool.not_true, Bool.not_false, Bool.not_not, List.zip_cons_cons, List.zip_nil_left, List.zip_nil_right, List.lookup_cons, agI, putD, List.filterMap_cons, List.filterMap_nil, allPlain, noOw, List.all_cons, List.all_nil, Bool.and_true, Bool.true_and, Bool.and_false, Bool.false_and, Bool.not_eq_true, Bool.not_eq_false, List.contains_cons, List.contains_nil, calmD, wipeD, unwipe, Option.getD_some, Option.getD_none])
local macro_rules | `(tactic| walk_at "sz") => `(tactic| first | omega | exact lgm (by omega) (by omega) (by omega) (by omega) | exact lgf (by omega) (by omega) | exact lgp (by omega) (by omega) (by omega) (by omega) | exact lgs (by omega) (by omega) | exact lgv (by omega) (by omega) (by omega) | decide | exact ⟨rfl, rfl⟩)
local macro_rules | `(tactic| walk_at "dis") => `(tactic| first | assumption | omega)
local macro_rules | `(tactic| walk_at "kn") => `(tactic| simp (discharger := walk_at "dis") only [ev_dTM, strOf_s, v_join, ev_dExN, ev_dExF, ev_dIsE, ev_dFldE, nmE_p, nmE_f, fdE_f, ev_dDIn, ev_dDGet, keyOf_str])
local macro_rules | `(tactic| walk_at "go") => `(tactic| repeat (first | refine gd_mk (by walk_at "sz") ?_ | walk_at "ev" | walk_at "kn"))
/- what a field is made with -/
def Spot (d : PyData) : Prop := d = .none ∨ ∃ i : Int, d = .int i ∧ 0 ≤ i ∧ i ≤ 10 ^ 29
theorem Spot.nic {d : PyData} (h : Spot d) : Nic 0 260 d := by
  rcases h with rfl | ⟨i, rfl, h0, h1⟩
  · exact nic_none
  · exact nic_int i (by omega) (by omega)
theorem fields_ok {d : PyData} (hd : Spot d) : Ev (m_fields_right [.im (.list (errs00 d)), .im d]) fun y => y = (.im (.bool true), [.im (.list (errs00 d)), .im d]) := by
  unfold m_fields_right
  walk_at "go"
  rw [show cutD (errs00 d) (some 8) (some 12) = [exF "InvalidMachine" "index" d, exF "InvalidCranks" "index" d, exF "InvalidCounter" "index" d, exF "InvalidPlan" "index" d] from rfl]
  rw [ev_lcCons]
  walk_at "go"
  rw [ev_lcCons]
  walk_at "go"
  rw [ev_lcCons]
  walk_at "go"
  rw [ev_lcCons]
  walk_at "go"
  rw [show atI (errs00 d) 12 = some (exF "InvalidSyntax" "word" d) from rfl]
  walk_at "go"
  have nc : Nic 1 (10 * 262 + 3) (.list [d, d, d, d, d, d, d, d, d, d]) := (nic_list (k := 0) (n := 260) fun e he => by
    have : e = d := by simpa using he
    rw [this]; exact hd.nic).mono (by omega) (by simp)
  refine ev_repr (nc) (by omega) (by omega) ?_
  walk_at "go"
  refine ev_repr (nc) (by omega) (by omega) ?_
  walk_at "go"
  skip
theorem ones_sum : ∀ {ss : List Str}, (∀ s ∈ ss, s.length = 1) → (ss.map (·.length)).sum = ss.length
  | [], _ => rfl
  | s :: ss, h => by
    have h1 := h s (List.mem_cons_self ..)
    have h2 := ones_sum (ss := ss) fun e he => h e (List.mem_cons_of_mem _ he)
    simp only [List.map_cons, List.sum_cons, List.length_cons, h1, h2]
    omega
theorem enum_at {ds : List PyData} {k : Nat} {x : PyData} (h : (enumD ds)[k]? = some x) : k < ds.length ∧ ∃ e, ds[k]? = some e ∧ x = .tuple [.int (k : Nat), e] := by
  unfold enumD at h
  rw [List.getElem?_map, List.getElem?_zipIdx] at h
  cases hk : ds[k]? with
  | none => rw [hk] at h; cases h
  | some e =>
    rw [hk] at h
    refine ⟨(List.getElem?_eq_some_iff.mp hk).1, e, rfl, ?_⟩
    cases h
    simp
theorem e13 : PyData.eqvAll (List.replicate 13 [PyData.bool false]).flatten [PyData.bool false, PyData.bool false, PyData.bool false, PyData.bool false, PyData.bool false, PyData.bool false, PyData.bool false, PyData.bool false, PyData.bool false, PyData.bool false, PyData.bool false, PyData.bool false, PyData.bool false] = true := by
  have := (nic_list (k := 0) (n := 260) (ds := [PyData.bool false, PyData.bool false, PyData.bool false, PyData.bool false, PyData.bool false, PyData.bool false, PyData.bool false, PyData.bool false, PyData.bool false, PyData.bool false, PyData.bool false, PyData.bool false, PyData.bool false]) fun d hd => by
    have : d = .bool false := by simpa using hd
    rw [this]; exact nic_bool _).refl
  simp only [PyData.eqv] at this
  exact this
/- the turn of one error -/
theorem turn00 {d e : PyData} {n : Str} {k : Nat} {a0 a1 a2 a3 a5 a6 : Sl} (hk : k < 13) (h1 : nd00[k]? = some n) (h2 : e = exP n ∨ ∃ f, e = exF n f d) {U : Fl × List Sl → Prop} (q : U (.nx, [a0, a1, a2, a3, .no, a5, a6, .im (.int k), .im e, .no])) :
    Ev (sSeq (sIf (tOrD (tNotD (tOfE (dIsE NSx NSx (dN 8)))) (tNotD (tOfE (dIsE NSx NSx (dN 8))))) (sRet (dC (.bool false))) sNext)
    (sIf (tOfE (dOp2 (blD neD) (.ex (dCall m_kinds [.ex (dN 8)])) (.ex (dLc' 10 (itR1 (dC (.int 13))) (tgN 9) tTrue (dOp2 (blD eqD) (.nm 9) (.nm 7)) [9])))) (sRet (dC (.bool false))) sNext) [a0, a1, a2, a3, .no, a5, a6, .im (.int k), .im e, .no]) U := by
  obtain ⟨hn, hr⟩ := kin00_at h1
  have hn2 := hn
  simp only [NSx, List.contains_cons, List.contains_nil, Bool.or_false] at hn2
  have hr2 : kin00 n = row00 k := congrArg (List.map PyData.bool) hr
  have hN : nmE e = some n := by rcases h2 with rfl | ⟨f, rfl⟩ <;> rfl
  have hK : Ev (m_kinds [.im e]) fun y => y = (.bx .l (kin00 n), [.im e]) := by
    rcases h2 with rfl | ⟨f, rfl⟩
    · exact kinds_p hn
    · exact kinds_f hn
  clear h2
  walk_at "go"
  rw [hN]
  walk_at "go"
  simp only [hn2, Bool.not_true]
  walk_at "go"
  rw [hN]
  walk_at "go"
  simp only [hn2, Bool.not_true]
  walk_at "go"
  refine (hK).mono ?_
  rintro _ rfl
  walk_at "go"
  rw [hr2]
  refine ev_lc0 (fun m acc δ => acc = (List.range m).map (fun j : Nat => PyData.bool (decide (j = k))) ∧ ∃ q9, δ = [a0, a1, a2, a3, .no, a5, a6, .im (.int k), .im e, q9]) ⟨rfl, _, rfl⟩ (by rw [range_len]; omega) (fun m x acc δ hd h' => ?_) fun acc δ h' => ?_
  · obtain ⟨rfl, q9, rfl⟩ := h'
    obtain ⟨hm, rfl⟩ := range_get hd
    walk_at "go"
    refine ⟨?_, _, rfl⟩
    rw [List.range_succ, List.map_append]
    simp only [List.map_cons, List.map_nil]
    rw [show decide ((0 + (m : Int) * 1) = (k : Int)) = decide (m = k) from by rw [decide_eq_decide]; omega]
  · obtain ⟨rfl, q9, rfl⟩ := h'
    rw [range_len]
    walk_at "go"
    have er : List.map (fun j : Nat => PyData.bool (decide (j = k))) (List.range 13) = row00 k := by unfold row00 rowB; rw [List.map_map]; rfl
    have ev : PyData.eqvAll (row00 k) (row00 k) = true := by
      have := (nic_row k).refl
      simpa only [PyData.eqv] using this
    rw [er, ev]
    simp only [Bool.not_true]
    walk_at "go"
    exact q
theorem law_true (ns : List Int) (h : ns.length ≤ 63) : ∃ as', m_law [.fz (ns.map PyData.int)] = some (.im (.bool true), as') := by
  have key : Ev (m_law [.fz (ns.map PyData.int)]) fun y => ∃ as', y = (.im (.bool true), as') := by
    unfold m_law
    walk_at "go"
    refine ev_loop0 (fun k δ => ∃ q1 q2 q3 q5 q6 q7 q8, δ = [.fz (ns.map PyData.int), q1, q2, q3, .no, q5, q6, q7, q8, .no]) ⟨_, _, _, _, _, _, _, rfl⟩ (fun i d δ hd h' => ?_) fun δ h' => ?_
    · obtain ⟨q1, q2, q3, q5, q6, q7, q8, rfl⟩ := h'
      obtain ⟨hi, rfl⟩ := range_get hd
      have hi6 : i < 6 := by omega
      clear hi hd
      walk_at "go"
      refine (tank_spec (ns := ns) (i := 0 + (i : Int) * 1) (by omega) (by omega)).mono ?_
      rintro _ ⟨j, rfl, hj⟩
      walk_at "go"
      refine (tap_spec hj (by omega) (by omega) (by omega)).mono ?_
      rintro _ ⟨n0, j_n0, rfl, n00, n01, hj⟩
      walk_at "go"
      refine ev_lc0 (fun k acc δ => ∃ (ss : List Str) (j' : List PyData) (q4 : Sl), acc = ss.map PyData.str ∧ ss.length = k ∧ (∀ s ∈ ss, s.length = 1) ∧ Jar (1 + k) j' ∧ δ = [.fz (ns.map PyData.int), .im (.int (0 + (i : Int) * 1)), .bx .l j', q3, q4, q5, q6, q7, q8, .no]) ⟨[], _, _, rfl, rfl, (fun s hs => by cases hs), hj, rfl⟩ (by rw [range_len]; omega) (fun k d acc δ hd h' => ?_) fun acc δ h' => ?_
      · obtain ⟨ss, j', q4, rfl, hl, hs, hj, rfl⟩ := h'
        obtain ⟨hk, rfl⟩ := range_get hd
        walk_at "go"
        refine (tap_spec hj (by omega) (by omega) (by omega)).mono ?_
        rintro _ ⟨c0, j_c0, rfl, c00, c01, hj⟩
        walk_at "go"
        have l6 : (Str.ofString "abc \n-").cps.toList.length = 6 := by decide +kernel
        refine ev_atP (fun _ => True) (by omega) (by rw [l6]; omega) (fun _ _ => trivial) fun c _ => ?_
        walk_at "go"
        exact ⟨ss ++ [⟨#[c]⟩], _, _, by rw [List.map_append]; rfl, by rw [List.length_append, hl]; rfl, fun s hs' => by
          rcases List.mem_append.mp hs' with z | z
          · exact hs s z
          · rw [List.mem_singleton.mp z]; rfl, hj.mono (by omega), rfl⟩
      · obtain ⟨ss, j', q4, rfl, hl, hs, hj, rfl⟩ := h'
        rw [range_len] at hl hj
        walk_at "go"
        rw [strsD_map]
        walk_at "go"
        refine gd_mk (by rw [ones_sum hs, hl, show (Str.ofString "").length = 0 by decide +kernel]; omega) ?_
        walk_at "go"
        refine (tap_spec hj (by omega) (by omega) (by omega)).mono ?_
        rintro _ ⟨s0, j_s0, rfl, s00, s01, hj⟩
        walk_at "go"
        refine (tap_spec hj (by omega) (by omega) (by omega)).mono ?_
        rintro _ ⟨s1, j_s1, rfl, s10, s11, hj⟩
        walk_at "go"
        refine ev_atP Spot (by omega) (by show s1 < ((4 : Nat) : Int); omega) (allc (.inl rfl) (allc (.inr ⟨_, rfl, by omega, by omega⟩) (allc (.inr ⟨_, rfl, by omega, by omega⟩) (allc (.inr ⟨_, rfl, by omega, by omega⟩) alln)))) fun d hd => ?_
        generalize Txt.join _ _ = tx
        walk_at "go"
        refine (made_eq tx d).mono ?_
        rintro _ rfl
        walk_at "go"
        refine ev_loop0 (fun k δ => ∃ q7 q8, δ = [.fz (ns.map PyData.int), .im (.int (0 + (i : Int) * 1)), .bx .l j_s1, .im (.str tx), .no, .im d, .im (.list (errs00 d)), q7, q8, .no]) ⟨_, _, rfl⟩ (fun k x δ hx h' => ?_) fun δ h' => ?_
        · obtain ⟨q7, q8, rfl⟩ := h'
          obtain ⟨hk, e, he, rfl⟩ := enum_at hx
          obtain ⟨e', n, he', hn, hc⟩ := at00 d (k := k) hk
          rw [he] at he'
          cases he'
          refine Ev.of (a := [.fz (ns.map PyData.int), .im (.int (0 + (i : Int) * 1)), .bx .l j_s1, .im (.str tx), .no, .im d, .im (.list (errs00 d)), .im (.int (k : Nat)), .im e, .no]) rfl ?_
          exact turn00 hk hn hc ⟨_, _, rfl⟩
        · obtain ⟨q7, q8, rfl⟩ := h'
          walk_at "go"
          refine (fields_ok hd).mono ?_
          rintro _ rfl
          walk_at "go"
          refine (kinds_p kin00_base.1).mono ?_
          rintro _ rfl
          walk_at "go"
          rw [kin00_base.2]
          rw [e13]
          simp only [Bool.not_true]
          walk_at "go"
          exact ⟨_, _, _, _, _, _, _, rfl⟩
    · obtain ⟨q1, q2, q3, q5, q6, q7, q8, rfl⟩ := h'
      walk_at "go"
      exact ⟨_, rfl⟩
  obtain ⟨y, e, as', rfl⟩ := key
  exact ⟨as', e⟩
end CK
namespace CK
open PySem PySem.Spec PyProof.Rows L2

def top (i : Nat) : Stmt := PySem.Challenge.pw_crankcarry_k00_errors_made.main.body.getD i (.Pass ⟨0, 0, 0, 0⟩)
abbrev s_tank : Stmt := top 16
abbrev s_made : Stmt := top 19
abbrev s_tap : Stmt := top 17
abbrev s_kinds : Stmt := top 18
abbrev s_fields_right : Stmt := top 20
abbrev s_law : Stmt := top 21
variable [mm : Memo] [Triv mm]
abbrev s_i_InvalidCounter : Stmt := cbody (top 12) 0
abbrev s_i_InvalidCranks : Stmt := cbody (top 11) 0
abbrev s_i_InvalidMachine : Stmt := cbody (top 10) 0
abbrev s_i_InvalidPlan : Stmt := cbody (top 13) 0
abbrev s_i_InvalidSyntax : Stmt := cbody (top 14) 0
structure TX (K : PySem.W.Frag) (mg : Str → Option Value) where
  e_tank : Ent K mg "_law_tank" s_tank ["_law_script", "_law_at"]
  e_made : Ent K mg "_law_made" s_made ["_law_text", "_law_spot"]
  e_tap : Ent K mg "_law_tap" s_tap ["_law_tank_here", "_law_many"]
  e_kinds : Ent K mg "_law_kinds" s_kinds ["_law_made_here"]
  e_fields_right : Ent K mg "_law_fields_right" s_fields_right ["_law_made_here", "_law_spot"]
  e_law : Ent K mg "law" s_law ["_law_script"]
  ee : IsE K mg mm
  xg : XgC K
  xb : BaseC K mg "CrankError"
  xc : ∀ n ∈ NSx, ∀ C, mg n = some (.ref C) → XcC K C
  x_CrankError : PErr K mg "CrankError"
  x_Impossible : PErr K mg "Impossible"
  x_InvalidCommand : PErr K mg "InvalidCommand"
  x_InvalidCounter : FErr K mg "InvalidCounter" "InvalidCounter.__init__" "index" s_i_InvalidCounter
  x_InvalidCranks : FErr K mg "InvalidCranks" "InvalidCranks.__init__" "index" s_i_InvalidCranks
  x_InvalidMachine : FErr K mg "InvalidMachine" "InvalidMachine.__init__" "index" s_i_InvalidMachine
  x_InvalidNumber : PErr K mg "InvalidNumber"
  x_InvalidPlace : PErr K mg "InvalidPlace"
  x_InvalidPlan : FErr K mg "InvalidPlan" "InvalidPlan.__init__" "index" s_i_InvalidPlan
  x_InvalidRegister : PErr K mg "InvalidRegister"
  x_InvalidSetting : PErr K mg "InvalidSetting"
  x_InvalidSyntax : FErr K mg "InvalidSyntax" "InvalidSyntax.__init__" "word" s_i_InvalidSyntax
  x_InvalidTurns : PErr K mg "InvalidTurns"
  x_NothingToUndo : PErr K mg "NothingToUndo"
  cat : ∀ n ∈ NSx, ∀ C, mg n = some (.ref C) → PySem.W.exmOne K (.ref C) (.ref x_CrankError.C) = some true
  k_InvalidSetting : ∀ n ∈ NSx, ∀ C, mg n = some (.ref C) → PySem.W.kitOne K (.ref C) (.ref x_InvalidSetting.C) = some ((["InvalidSetting"] : List Str).contains n)
  k_InvalidRegister : ∀ n ∈ NSx, ∀ C, mg n = some (.ref C) → PySem.W.kitOne K (.ref C) (.ref x_InvalidRegister.C) = some ((["InvalidRegister"] : List Str).contains n)
  k_InvalidPlace : ∀ n ∈ NSx, ∀ C, mg n = some (.ref C) → PySem.W.kitOne K (.ref C) (.ref x_InvalidPlace.C) = some ((["InvalidPlace"] : List Str).contains n)
  k_InvalidTurns : ∀ n ∈ NSx, ∀ C, mg n = some (.ref C) → PySem.W.kitOne K (.ref C) (.ref x_InvalidTurns.C) = some ((["InvalidTurns"] : List Str).contains n)
  k_InvalidNumber : ∀ n ∈ NSx, ∀ C, mg n = some (.ref C) → PySem.W.kitOne K (.ref C) (.ref x_InvalidNumber.C) = some ((["InvalidNumber"] : List Str).contains n)
  k_Impossible : ∀ n ∈ NSx, ∀ C, mg n = some (.ref C) → PySem.W.kitOne K (.ref C) (.ref x_Impossible.C) = some ((["Impossible"] : List Str).contains n)
  k_NothingToUndo : ∀ n ∈ NSx, ∀ C, mg n = some (.ref C) → PySem.W.kitOne K (.ref C) (.ref x_NothingToUndo.C) = some ((["NothingToUndo"] : List Str).contains n)
  k_InvalidCommand : ∀ n ∈ NSx, ∀ C, mg n = some (.ref C) → PySem.W.kitOne K (.ref C) (.ref x_InvalidCommand.C) = some ((["InvalidCommand"] : List Str).contains n)
  k_InvalidMachine : ∀ n ∈ NSx, ∀ C, mg n = some (.ref C) → PySem.W.kitOne K (.ref C) (.ref x_InvalidMachine.C) = some ((["InvalidMachine"] : List Str).contains n)
  k_InvalidCranks : ∀ n ∈ NSx, ∀ C, mg n = some (.ref C) → PySem.W.kitOne K (.ref C) (.ref x_InvalidCranks.C) = some ((["InvalidCranks"] : List Str).contains n)
  k_InvalidCounter : ∀ n ∈ NSx, ∀ C, mg n = some (.ref C) → PySem.W.kitOne K (.ref C) (.ref x_InvalidCounter.C) = some ((["InvalidCounter"] : List Str).contains n)
  k_InvalidPlan : ∀ n ∈ NSx, ∀ C, mg n = some (.ref C) → PySem.W.kitOne K (.ref C) (.ref x_InvalidPlan.C) = some ((["InvalidPlan"] : List Str).contains n)
  k_InvalidSyntax : ∀ n ∈ NSx, ∀ C, mg n = some (.ref C) → PySem.W.kitOne K (.ref C) (.ref x_InvalidSyntax.C) = some ((["InvalidSyntax"] : List Str).contains n)
  k_CrankError : ∀ n ∈ NSx, ∀ C, mg n = some (.ref C) → PySem.W.kitOne K (.ref C) (.ref x_CrankError.C) = some ((["CrankError", "Impossible", "InvalidCommand", "InvalidCounter", "InvalidCranks", "InvalidMachine", "InvalidNumber", "InvalidPlace", "InvalidPlan", "InvalidRegister", "InvalidSetting", "InvalidSyntax", "InvalidTurns", "NothingToUndo"] : List Str).contains n)
  k_ValueError : ∀ n ∈ NSx, ∀ C, mg n = some (.ref C) → PySem.W.kitOne K (.ref C) (.type "ValueError") = some ((["CrankError", "Impossible", "InvalidCommand", "InvalidCounter", "InvalidCranks", "InvalidMachine", "InvalidNumber", "InvalidPlace", "InvalidPlan", "InvalidRegister", "InvalidSetting", "InvalidSyntax", "InvalidTurns", "NothingToUndo"] : List Str).contains n)
  xf_index : ∀ n ∈ (["InvalidCounter", "InvalidCranks", "InvalidMachine", "InvalidPlan"] : List Str), ∀ C, mg n = some (.ref C) → XcC K C ∧ PySem.W.findIn K (.ref C) "index" = some none
  xf_word : ∀ n ∈ (["InvalidSyntax"] : List Str), ∀ C, mg n = some (.ref C) → XcC K C ∧ PySem.W.findIn K (.ref C) "word" = some none
  mgn : ∀ n C, PySem.W.nsIn K mainGlobals n = some (some (.ref C)) → mg n = some (.ref C)
  h_CrankError : ∀ C, mg "CrankError" = some (.ref C) → PySem.W.nsIn K mainGlobals "CrankError" = some (some (.ref C))
  h_Impossible : ∀ C, mg "Impossible" = some (.ref C) → PySem.W.nsIn K mainGlobals "Impossible" = some (some (.ref C))
  h_InvalidCommand : ∀ C, mg "InvalidCommand" = some (.ref C) → PySem.W.nsIn K mainGlobals "InvalidCommand" = some (some (.ref C))
  h_InvalidCounter : ∀ C, mg "InvalidCounter" = some (.ref C) → PySem.W.nsIn K mainGlobals "InvalidCounter" = some (some (.ref C))
  h_InvalidCranks : ∀ C, mg "InvalidCranks" = some (.ref C) → PySem.W.nsIn K mainGlobals "InvalidCranks" = some (some (.ref C))
  h_InvalidMachine : ∀ C, mg "InvalidMachine" = some (.ref C) → PySem.W.nsIn K mainGlobals "InvalidMachine" = some (some (.ref C))
  h_InvalidNumber : ∀ C, mg "InvalidNumber" = some (.ref C) → PySem.W.nsIn K mainGlobals "InvalidNumber" = some (some (.ref C))
  h_InvalidPlace : ∀ C, mg "InvalidPlace" = some (.ref C) → PySem.W.nsIn K mainGlobals "InvalidPlace" = some (some (.ref C))
  h_InvalidPlan : ∀ C, mg "InvalidPlan" = some (.ref C) → PySem.W.nsIn K mainGlobals "InvalidPlan" = some (some (.ref C))
  h_InvalidRegister : ∀ C, mg "InvalidRegister" = some (.ref C) → PySem.W.nsIn K mainGlobals "InvalidRegister" = some (some (.ref C))
  h_InvalidSetting : ∀ C, mg "InvalidSetting" = some (.ref C) → PySem.W.nsIn K mainGlobals "InvalidSetting" = some (some (.ref C))
  h_InvalidSyntax : ∀ C, mg "InvalidSyntax" = some (.ref C) → PySem.W.nsIn K mainGlobals "InvalidSyntax" = some (some (.ref C))
  h_InvalidTurns : ∀ C, mg "InvalidTurns" = some (.ref C) → PySem.W.nsIn K mainGlobals "InvalidTurns" = some (some (.ref C))
  h_NothingToUndo : ∀ C, mg "NothingToUndo" = some (.ref C) → PySem.W.nsIn K mainGlobals "NothingToUndo" = some (some (.ref C))
  kx_InvalidCounter : KwM K x_InvalidCounter.fd ["self", "index"] ["index"]
  kx_InvalidCranks : KwM K x_InvalidCranks.fd ["self", "index"] ["index"]
  kx_InvalidMachine : KwM K x_InvalidMachine.fd ["self", "index"] ["index"]
  kx_InvalidPlan : KwM K x_InvalidPlan.fd ["self", "index"] ["index"]
  kx_InvalidSyntax : KwM K x_InvalidSyntax.fd ["self", "word"] ["word"]
  b_ValueError : mg "ValueError" = none
  b_abs : mg "abs" = none
  b_enumerate : mg "enumerate" = none
  b_int : mg "int" = none
  b_isinstance : mg "isinstance" = none
  b_len : mg "len" = none
  b_max : mg "max" = none
  b_min : mg "min" = none
  b_range : mg "range" = none
  b_repr : mg "repr" = none
section
variable {P : Program} {w : World} {K : PySem.W.Frag} {mg : Str → Option Value} {base : Heap}
theorem sc_i_InvalidCounter : FnScope ["self", "index"] ["self", "index"] (defScope s_i_InvalidCounter) := ⟨rfl, rfl, rfl, by decide +kernel, rfl, by decide +kernel, by decide +kernel⟩
theorem fe_InvalidCounter (T : TX K mg) : ErrFK K mg base P w 1 "InvalidCounter" "index" := ⟨T.x_InvalidCounter.C, T.x_InvalidCounter.fI, T.x_InvalidCounter.fd, T.x_InvalidCounter.mg, T.x_InvalidCounter.oex, T.x_InvalidCounter.iC, T.x_InvalidCounter.tI, initOk T.x_InvalidCounter.fn sc_i_InvalidCounter (fun cdv A outer s H E => (pss_cons (ps_expr (pe_binit T.xb rfl (pa_cons (pe_var (i := 0) rfl (by first | exact Or.inl rfl | exact Or.inr (Or.inl rfl) | exact Or.inr (Or.inr rfl))) (pa_cons pe_str pa_nil)))) (pss_one (ps_ost (pe_var (i := 0) rfl (by first | exact Or.inl rfl | exact Or.inr (Or.inl rfl) | exact Or.inr (Or.inr rfl))) (pe_var (i := 1) rfl (by first | exact Or.inl rfl | exact Or.inr (Or.inl rfl) | exact Or.inr (Or.inr rfl))))))), T.x_InvalidCounter.bd, T.x_InvalidCounter.no, T.kx_InvalidCounter⟩
theorem sc_i_InvalidCranks : FnScope ["self", "index"] ["self", "index"] (defScope s_i_InvalidCranks) := ⟨rfl, rfl, rfl, by decide +kernel, rfl, by decide +kernel, by decide +kernel⟩
theorem fe_InvalidCranks (T : TX K mg) : ErrFK K mg base P w 1 "InvalidCranks" "index" := ⟨T.x_InvalidCranks.C, T.x_InvalidCranks.fI, T.x_InvalidCranks.fd, T.x_InvalidCranks.mg, T.x_InvalidCranks.oex, T.x_InvalidCranks.iC, T.x_InvalidCranks.tI, initOk T.x_InvalidCranks.fn sc_i_InvalidCranks (fun cdv A outer s H E => (pss_cons (ps_expr (pe_binit T.xb rfl (pa_cons (pe_var (i := 0) rfl (by first | exact Or.inl rfl | exact Or.inr (Or.inl rfl) | exact Or.inr (Or.inr rfl))) (pa_cons pe_str pa_nil)))) (pss_one (ps_ost (pe_var (i := 0) rfl (by first | exact Or.inl rfl | exact Or.inr (Or.inl rfl) | exact Or.inr (Or.inr rfl))) (pe_var (i := 1) rfl (by first | exact Or.inl rfl | exact Or.inr (Or.inl rfl) | exact Or.inr (Or.inr rfl))))))), T.x_InvalidCranks.bd, T.x_InvalidCranks.no, T.kx_InvalidCranks⟩
theorem sc_i_InvalidMachine : FnScope ["self", "index"] ["self", "index"] (defScope s_i_InvalidMachine) := ⟨rfl, rfl, rfl, by decide +kernel, rfl, by decide +kernel, by decide +kernel⟩
theorem fe_InvalidMachine (T : TX K mg) : ErrFK K mg base P w 1 "InvalidMachine" "index" := ⟨T.x_InvalidMachine.C, T.x_InvalidMachine.fI, T.x_InvalidMachine.fd, T.x_InvalidMachine.mg, T.x_InvalidMachine.oex, T.x_InvalidMachine.iC, T.x_InvalidMachine.tI, initOk T.x_InvalidMachine.fn sc_i_InvalidMachine (fun cdv A outer s H E => (pss_cons (ps_expr (pe_binit T.xb rfl (pa_cons (pe_var (i := 0) rfl (by first | exact Or.inl rfl | exact Or.inr (Or.inl rfl) | exact Or.inr (Or.inr rfl))) (pa_cons pe_str pa_nil)))) (pss_one (ps_ost (pe_var (i := 0) rfl (by first | exact Or.inl rfl | exact Or.inr (Or.inl rfl) | exact Or.inr (Or.inr rfl))) (pe_var (i := 1) rfl (by first | exact Or.inl rfl | exact Or.inr (Or.inl rfl) | exact Or.inr (Or.inr rfl))))))), T.x_InvalidMachine.bd, T.x_InvalidMachine.no, T.kx_InvalidMachine⟩
theorem sc_i_InvalidPlan : FnScope ["self", "index"] ["self", "index"] (defScope s_i_InvalidPlan) := ⟨rfl, rfl, rfl, by decide +kernel, rfl, by decide +kernel, by decide +kernel⟩
theorem fe_InvalidPlan (T : TX K mg) : ErrFK K mg base P w 1 "InvalidPlan" "index" := ⟨T.x_InvalidPlan.C, T.x_InvalidPlan.fI, T.x_InvalidPlan.fd, T.x_InvalidPlan.mg, T.x_InvalidPlan.oex, T.x_InvalidPlan.iC, T.x_InvalidPlan.tI, initOk T.x_InvalidPlan.fn sc_i_InvalidPlan (fun cdv A outer s H E => (pss_cons (ps_expr (pe_binit T.xb rfl (pa_cons (pe_var (i := 0) rfl (by first | exact Or.inl rfl | exact Or.inr (Or.inl rfl) | exact Or.inr (Or.inr rfl))) (pa_cons pe_str pa_nil)))) (pss_one (ps_ost (pe_var (i := 0) rfl (by first | exact Or.inl rfl | exact Or.inr (Or.inl rfl) | exact Or.inr (Or.inr rfl))) (pe_var (i := 1) rfl (by first | exact Or.inl rfl | exact Or.inr (Or.inl rfl) | exact Or.inr (Or.inr rfl))))))), T.x_InvalidPlan.bd, T.x_InvalidPlan.no, T.kx_InvalidPlan⟩
theorem sc_i_InvalidSyntax : FnScope ["self", "word"] ["self", "word"] (defScope s_i_InvalidSyntax) := ⟨rfl, rfl, rfl, by decide +kernel, rfl, by decide +kernel, by decide +kernel⟩
theorem fe_InvalidSyntax (T : TX K mg) : ErrFK K mg base P w 1 "InvalidSyntax" "word" := ⟨T.x_InvalidSyntax.C, T.x_InvalidSyntax.fI, T.x_InvalidSyntax.fd, T.x_InvalidSyntax.mg, T.x_InvalidSyntax.oex, T.x_InvalidSyntax.iC, T.x_InvalidSyntax.tI, initOk T.x_InvalidSyntax.fn sc_i_InvalidSyntax (fun cdv A outer s H E => (pss_cons (ps_expr (pe_binit T.xb rfl (pa_cons (pe_var (i := 0) rfl (by first | exact Or.inl rfl | exact Or.inr (Or.inl rfl) | exact Or.inr (Or.inr rfl))) (pa_cons pe_str pa_nil)))) (pss_one (ps_ost (pe_var (i := 0) rfl (by first | exact Or.inl rfl | exact Or.inr (Or.inl rfl) | exact Or.inr (Or.inr rfl))) (pe_var (i := 1) rfl (by first | exact Or.inl rfl | exact Or.inr (Or.inl rfl) | exact Or.inr (Or.inr rfl))))))), T.x_InvalidSyntax.bd, T.x_InvalidSyntax.no, T.kx_InvalidSyntax⟩
abbrev n_tank : List Str := ["_law_script", "_law_at", "_law_cell"]
theorem sc_tank : FnScope ["_law_script", "_law_at", "_law_cell"] ["_law_script", "_law_at"] (defScope s_tank) := ⟨rfl, rfl, rfl, by decide +kernel, rfl, by decide +kernel, by decide +kernel⟩
theorem ok_tank [mm : Memo] [Triv mm] [Still mm] (T : TX K mg) : FnG P w K mg base CX0 1 T.e_tank.f T.e_tank.fd ["_law_script", "_law_at"] (spD K 2 m_tank) :=
  okG (k := 0) (n := 2) (m := 1) (Pn := []) T.e_tank.fn sc_tank rfl rfl (by decide) fun cdv A outer s H E hgd hr => by
    have hu := hr.units
    have hu2 := room128 hr
    exact (dss_cons (ds_set sc_tank.nd rfl (by first | exact Or.inl rfl | exact Or.inr rfl) (de_if (dt_lt (do_nm 1) (do_ex (de_lenF 0 rfl T.b_len))) (de_ixF 0 (de_name 1)) de_int))
    (dss_one (ds_ret (de_lst (dl_one (de_max2 rfl rfl T.b_max (do_ex de_int) (do_ex (de_sub (do_ex (de_abs rfl T.b_abs (do_nm 2))) (do_ex (de_pow (do_ex de_int) (do_ex de_int)))))) (dl_one (de_add (do_ex (de_mod (do_ex (de_int1 rfl T.b_int (do_nm 2))) (do_ex de_int))) (do_ex (de_mul (do_ex de_int) (do_ex (de_add (do_nm 1) (do_ex de_int)))))) (dl_one de_int dl_nil)))))))

abbrev n_made : List Str := ["_law_text", "_law_spot", "_law_found"]
theorem sc_made : FnScope ["_law_text", "_law_spot", "_law_found"] ["_law_text", "_law_spot"] (defScope s_made) := ⟨rfl, rfl, rfl, by decide +kernel, rfl, by decide +kernel, by decide +kernel⟩
theorem ok_made [mm : Memo] [Triv mm] [Still mm] (T : TX K mg) : FnG P w K mg base CX0 3 T.e_made.f T.e_made.fd ["_law_text", "_law_spot"] (spD K 2 m_made) :=
  okG (k := 2) (n := 2) (m := 1) (Pn := []) T.e_made.fn sc_made rfl rfl (by decide) fun cdv A outer s H E hgd hr => by
    have hu := hr.units
    have hu2 := room128 hr
    exact (dss_cons (ds_set sc_made.nd rfl (by first | exact Or.inl rfl | exact Or.inr rfl) (de_lst (dl_one (de_exN rfl PySem.F.excBase_ValueError T.x_InvalidSetting.q T.x_InvalidSetting.mg (T.h_InvalidSetting _ T.x_InvalidSetting.mg) T.x_InvalidSetting.kp (raises_own T.x_InvalidSetting.xc.ex T.x_InvalidSetting.ty) rfl (de_name 0)) (dl_one (de_exN rfl PySem.F.excBase_ValueError T.x_InvalidRegister.q T.x_InvalidRegister.mg (T.h_InvalidRegister _ T.x_InvalidRegister.mg) T.x_InvalidRegister.kp (raises_own T.x_InvalidRegister.xc.ex T.x_InvalidRegister.ty) rfl (de_name 0)) (dl_one (de_exN rfl PySem.F.excBase_ValueError T.x_InvalidPlace.q T.x_InvalidPlace.mg (T.h_InvalidPlace _ T.x_InvalidPlace.mg) T.x_InvalidPlace.kp (raises_own T.x_InvalidPlace.xc.ex T.x_InvalidPlace.ty) rfl (de_name 0)) (dl_one (de_exN rfl PySem.F.excBase_ValueError T.x_InvalidTurns.q T.x_InvalidTurns.mg (T.h_InvalidTurns _ T.x_InvalidTurns.mg) T.x_InvalidTurns.kp (raises_own T.x_InvalidTurns.xc.ex T.x_InvalidTurns.ty) rfl (de_name 0)) dl_nil))))))
    (dss_cons (ds_set sc_made.nd rfl (by first | exact Or.inl rfl | exact Or.inr rfl) (de_add (do_nm 2) (do_ex (de_lst (dl_one (de_exN rfl PySem.F.excBase_ValueError T.x_InvalidNumber.q T.x_InvalidNumber.mg (T.h_InvalidNumber _ T.x_InvalidNumber.mg) T.x_InvalidNumber.kp (raises_own T.x_InvalidNumber.xc.ex T.x_InvalidNumber.ty) rfl (de_name 0)) (dl_one (de_exN rfl PySem.F.excBase_ValueError T.x_Impossible.q T.x_Impossible.mg (T.h_Impossible _ T.x_Impossible.mg) T.x_Impossible.kp (raises_own T.x_Impossible.xc.ex T.x_Impossible.ty) rfl (de_name 0)) (dl_one (de_exN rfl PySem.F.excBase_ValueError T.x_NothingToUndo.q T.x_NothingToUndo.mg (T.h_NothingToUndo _ T.x_NothingToUndo.mg) T.x_NothingToUndo.kp (raises_own T.x_NothingToUndo.xc.ex T.x_NothingToUndo.ty) rfl (de_name 0)) (dl_one (de_exN rfl PySem.F.excBase_ValueError T.x_InvalidCommand.q T.x_InvalidCommand.mg (T.h_InvalidCommand _ T.x_InvalidCommand.mg) T.x_InvalidCommand.kp (raises_own T.x_InvalidCommand.xc.ex T.x_InvalidCommand.ty) rfl (de_name 0)) dl_nil))))))))
    (dss_cons (ds_set sc_made.nd rfl (by first | exact Or.inl rfl | exact Or.inr rfl) (de_add (do_nm 2) (do_ex (de_lst (dl_one (de_exF (k := 1) rfl (fe_InvalidMachine T).f T.h_InvalidMachine (hr.mono (by decide)) rfl (de_name 1)) (dl_one (de_exF (k := 1) rfl (fe_InvalidCranks T).f T.h_InvalidCranks (hr.mono (by decide)) rfl (de_name 1)) (dl_one (de_exF (k := 1) rfl (fe_InvalidCounter T).f T.h_InvalidCounter (hr.mono (by decide)) rfl (de_name 1)) (dl_one (de_exF (k := 1) rfl (fe_InvalidPlan T).f T.h_InvalidPlan (hr.mono (by decide)) rfl (de_name 1)) dl_nil))))))))
    (dss_one (ds_ret (de_add (do_nm 2) (do_ex (de_lst (dl_one (de_exF (k := 1) rfl (fe_InvalidSyntax T).f T.h_InvalidSyntax (hr.mono (by decide)) rfl (de_name 1)) dl_nil)))))))))

abbrev n_tap : List Str := ["_law_tank_here", "_law_many", "_law_drawn", "_law_mixed"]
theorem sc_tap : FnScope ["_law_tank_here", "_law_many", "_law_drawn", "_law_mixed"] ["_law_tank_here", "_law_many"] (defScope s_tap) := ⟨rfl, rfl, rfl, by decide +kernel, rfl, by decide +kernel, by decide +kernel⟩
theorem ok_tap [mm : Memo] [Triv mm] [Still mm] (T : TX K mg) : FnG P w K mg base CX0 1 T.e_tap.f T.e_tap.fd ["_law_tank_here", "_law_many"] (spD K 2 m_tap) :=
  okG (k := 0) (n := 2) (m := 2) (Pn := [0]) T.e_tap.fn sc_tap rfl rfl (by decide) fun cdv A outer s H E hgd hr => by
    have hu := hr.units
    have hu2 := room128 hr
    exact (dss_cons (ds_if (dt_gt (do_ex (de_ix (do_nm 0) (do_ex de_int))) (do_ex de_int)) (dss_cons (ds_set sc_tap.nd rfl (by first | exact Or.inl rfl | exact Or.inr rfl) (de_mod (do_ex (de_int1 rfl T.b_int (do_ex (de_ix (do_nm 0) (do_ex de_int))))) (do_nm 1)))
    (dss_cons (ds_sto 0 (de_fdiv (do_ex (de_ix (do_nm 0) (do_ex de_int))) (do_nm 1)) de_int)
    (dss_one (ds_retV 2)))) dss_nil)
    (dss_cons (ds_sto 0 (de_add (do_ex (de_ix (do_nm 0) (do_ex de_int))) (do_ex de_int)) de_int)
    (dss_cons (ds_set sc_tap.nd rfl (by first | exact Or.inl rfl | exact Or.inr rfl) (de_mod (do_ex (de_int1 rfl T.b_int (do_ex (de_pow (do_ex (de_add (do_ex (de_ix (do_nm 0) (do_ex de_int))) (do_ex (de_mul (do_ex de_int) (do_ex (de_ix (do_nm 0) (do_ex de_int))))))) (do_ex de_int))))) (do_ex de_int)))
    (dss_cons (ds_set sc_tap.nd rfl (by first | exact Or.inl rfl | exact Or.inr rfl) (de_mod (do_ex (de_int1 rfl T.b_int (do_ex (de_pow (do_ex (de_add (do_nm 3) (do_ex (de_mul (do_ex de_int) (do_ex (de_ix (do_nm 0) (do_ex de_int))))))) (do_ex de_int))))) (do_ex (de_add (do_ex (de_pow (do_ex de_int) (do_ex de_int))) (do_ex de_int)))))
    (dss_one (ds_ret (de_mod (do_ex (de_int1 rfl T.b_int (do_ex (de_fdiv (do_nm 3) (do_ex de_int))))) (do_nm 1))))))))

abbrev n_kinds : List Str := ["_law_made_here", "_law_found"]
theorem sc_kinds : FnScope ["_law_made_here", "_law_found"] ["_law_made_here"] (defScope s_kinds) := ⟨rfl, rfl, rfl, by decide +kernel, rfl, by decide +kernel, by decide +kernel⟩
theorem ok_kinds [mm : Memo] [Triv mm] [Still mm] (T : TX K mg) : FnG P w K mg base CX0 1 T.e_kinds.f T.e_kinds.fd ["_law_made_here"] (spD K 1 m_kinds) :=
  okG (k := 0) (n := 1) (m := 1) (Pn := []) T.e_kinds.fn sc_kinds rfl rfl (by decide) fun cdv A outer s H E hgd hr => by
    have hu := hr.units
    have hu2 := room128 hr
    exact (dss_cons (ds_set sc_kinds.nd rfl (by first | exact Or.inl rfl | exact Or.inr rfl) (de_lst (dl_one (de_isE T.xg (fun n hn C h => T.xc n hn C (T.mgn n C h)) (c := .ref T.x_InvalidSetting.C) (fun _ r => r) (pe_glob rfl T.x_InvalidSetting.mg rfl) (fun n hn C h => T.k_InvalidSetting n hn C (T.mgn n C h)) rfl T.b_isinstance (de_name 0)) (dl_one (de_isE T.xg (fun n hn C h => T.xc n hn C (T.mgn n C h)) (c := .ref T.x_InvalidRegister.C) (fun _ r => r) (pe_glob rfl T.x_InvalidRegister.mg rfl) (fun n hn C h => T.k_InvalidRegister n hn C (T.mgn n C h)) rfl T.b_isinstance (de_name 0)) (dl_one (de_isE T.xg (fun n hn C h => T.xc n hn C (T.mgn n C h)) (c := .ref T.x_InvalidPlace.C) (fun _ r => r) (pe_glob rfl T.x_InvalidPlace.mg rfl) (fun n hn C h => T.k_InvalidPlace n hn C (T.mgn n C h)) rfl T.b_isinstance (de_name 0)) dl_nil)))))
    (dss_cons (ds_set sc_kinds.nd rfl (by first | exact Or.inl rfl | exact Or.inr rfl) (de_add (do_nm 1) (do_ex (de_lst (dl_one (de_isE T.xg (fun n hn C h => T.xc n hn C (T.mgn n C h)) (c := .ref T.x_InvalidTurns.C) (fun _ r => r) (pe_glob rfl T.x_InvalidTurns.mg rfl) (fun n hn C h => T.k_InvalidTurns n hn C (T.mgn n C h)) rfl T.b_isinstance (de_name 0)) (dl_one (de_isE T.xg (fun n hn C h => T.xc n hn C (T.mgn n C h)) (c := .ref T.x_InvalidNumber.C) (fun _ r => r) (pe_glob rfl T.x_InvalidNumber.mg rfl) (fun n hn C h => T.k_InvalidNumber n hn C (T.mgn n C h)) rfl T.b_isinstance (de_name 0)) (dl_one (de_isE T.xg (fun n hn C h => T.xc n hn C (T.mgn n C h)) (c := .ref T.x_Impossible.C) (fun _ r => r) (pe_glob rfl T.x_Impossible.mg rfl) (fun n hn C h => T.k_Impossible n hn C (T.mgn n C h)) rfl T.b_isinstance (de_name 0)) dl_nil)))))))
    (dss_cons (ds_set sc_kinds.nd rfl (by first | exact Or.inl rfl | exact Or.inr rfl) (de_add (do_nm 1) (do_ex (de_lst (dl_one (de_isE T.xg (fun n hn C h => T.xc n hn C (T.mgn n C h)) (c := .ref T.x_NothingToUndo.C) (fun _ r => r) (pe_glob rfl T.x_NothingToUndo.mg rfl) (fun n hn C h => T.k_NothingToUndo n hn C (T.mgn n C h)) rfl T.b_isinstance (de_name 0)) (dl_one (de_isE T.xg (fun n hn C h => T.xc n hn C (T.mgn n C h)) (c := .ref T.x_InvalidCommand.C) (fun _ r => r) (pe_glob rfl T.x_InvalidCommand.mg rfl) (fun n hn C h => T.k_InvalidCommand n hn C (T.mgn n C h)) rfl T.b_isinstance (de_name 0)) dl_nil))))))
    (dss_cons (ds_set sc_kinds.nd rfl (by first | exact Or.inl rfl | exact Or.inr rfl) (de_add (do_nm 1) (do_ex (de_lst (dl_one (de_isE T.xg (fun n hn C h => T.xc n hn C (T.mgn n C h)) (c := .ref T.x_InvalidMachine.C) (fun _ r => r) (pe_glob rfl T.x_InvalidMachine.mg rfl) (fun n hn C h => T.k_InvalidMachine n hn C (T.mgn n C h)) rfl T.b_isinstance (de_name 0)) (dl_one (de_isE T.xg (fun n hn C h => T.xc n hn C (T.mgn n C h)) (c := .ref T.x_InvalidCranks.C) (fun _ r => r) (pe_glob rfl T.x_InvalidCranks.mg rfl) (fun n hn C h => T.k_InvalidCranks n hn C (T.mgn n C h)) rfl T.b_isinstance (de_name 0)) dl_nil))))))
    (dss_cons (ds_set sc_kinds.nd rfl (by first | exact Or.inl rfl | exact Or.inr rfl) (de_add (do_nm 1) (do_ex (de_lst (dl_one (de_isE T.xg (fun n hn C h => T.xc n hn C (T.mgn n C h)) (c := .ref T.x_InvalidCounter.C) (fun _ r => r) (pe_glob rfl T.x_InvalidCounter.mg rfl) (fun n hn C h => T.k_InvalidCounter n hn C (T.mgn n C h)) rfl T.b_isinstance (de_name 0)) (dl_one (de_isE T.xg (fun n hn C h => T.xc n hn C (T.mgn n C h)) (c := .ref T.x_InvalidPlan.C) (fun _ r => r) (pe_glob rfl T.x_InvalidPlan.mg rfl) (fun n hn C h => T.k_InvalidPlan n hn C (T.mgn n C h)) rfl T.b_isinstance (de_name 0)) dl_nil))))))
    (dss_one (ds_ret (de_add (do_nm 1) (do_ex (de_lst (dl_one (de_isE T.xg (fun n hn C h => T.xc n hn C (T.mgn n C h)) (c := .ref T.x_InvalidSyntax.C) (fun _ r => r) (pe_glob rfl T.x_InvalidSyntax.mg rfl) (fun n hn C h => T.k_InvalidSyntax n hn C (T.mgn n C h)) rfl T.b_isinstance (de_name 0)) dl_nil)))))))))))

abbrev n_fields_right : List Str := ["_law_made_here", "_law_spot", "_law_told", "_law_one"]
theorem sc_fields_right : FnScope ["_law_made_here", "_law_spot", "_law_told", "_law_one"] ["_law_made_here", "_law_spot"] (defScope s_fields_right) := ⟨rfl, rfl, rfl, by decide +kernel, rfl, by decide +kernel, by decide +kernel⟩
theorem ok_fields_right [mm : Memo] [Triv mm] [Still mm] (T : TX K mg) : FnG P w K mg base CX0 3 T.e_fields_right.f T.e_fields_right.fd ["_law_made_here", "_law_spot"] (spD K 2 m_fields_right) :=
  okG (k := 2) (n := 2) (m := 2) (Pn := []) T.e_fields_right.fn sc_fields_right rfl rfl (by decide) fun cdv A outer s H E hgd hr => by
    have hu := hr.units
    have hu2 := room128 hr
    exact (dss_cons (ds_set sc_fields_right.nd rfl (by first | exact Or.inl rfl | exact Or.inr rfl) (de_add (do_ex (de_lc (own := [("_law_one", 3)]) (n := 4) rfl sc_fields_right.nd (di_seq (de_sl (do_nm 0) (dp_some de_int) (dp_some de_int))) (blkOk_by (N := n_fields_right) (sc := defScope s_fields_right) (by decide +kernel)) (fun _ _ _ _ _ => (dg_name sc_fields_right.nd rfl (by first | exact Or.inl rfl | exact Or.inr rfl))) tgN_keep (fun _ _ _ _ _ => dts_nil) (fun _ _ _ _ _ => (de_fldE (fun n hn C h => T.xf_index n hn C (T.mgn n C h)) (de_name 3))))) (do_ex (de_lst (dl_one (de_fldE (fun n hn C h => T.xf_word n hn C (T.mgn n C h)) (de_ix (do_nm 0) (do_ex de_int))) (dl_one (de_fldE (fun n hn C h => T.xf_index n hn C (T.mgn n C h)) (de_exK (k := 1) rfl (fe_InvalidMachine T) T.h_InvalidMachine (hr.mono (by decide)) rfl (de_name 1))) dl_nil))))))
    (dss_cons (ds_set sc_fields_right.nd rfl (by first | exact Or.inl rfl | exact Or.inr rfl) (de_add (do_nm 2) (do_ex (de_lst (dl_one (de_fldE (fun n hn C h => T.xf_index n hn C (T.mgn n C h)) (de_exK (k := 1) rfl (fe_InvalidCranks T) T.h_InvalidCranks (hr.mono (by decide)) rfl (de_name 1))) (dl_one (de_fldE (fun n hn C h => T.xf_index n hn C (T.mgn n C h)) (de_exK (k := 1) rfl (fe_InvalidCounter T) T.h_InvalidCounter (hr.mono (by decide)) rfl (de_name 1))) (dl_one (de_fldE (fun n hn C h => T.xf_index n hn C (T.mgn n C h)) (de_exK (k := 1) rfl (fe_InvalidPlan T) T.h_InvalidPlan (hr.mono (by decide)) rfl (de_name 1))) dl_nil)))))))
    (dss_one (ds_ret (de_eq hu (do_ex (de_repr hgd hu2 rfl T.b_repr (do_ex (de_add (do_nm 2) (do_ex (de_lst (dl_one (de_fldE (fun n hn C h => T.xf_word n hn C (T.mgn n C h)) (de_exK (k := 1) rfl (fe_InvalidSyntax T) T.h_InvalidSyntax (hr.mono (by decide)) rfl (de_name 1))) dl_nil))))))) (do_ex (de_repr hgd hu2 rfl T.b_repr (do_ex (de_mul (do_ex (de_lst (dl_one (de_name 1) dl_nil))) (do_ex de_int))))))))))

abbrev n_law : List Str := ["_law_script", "_law_at", "_law_tank_here", "_law_text", "_law_turn", "_law_spot", "_law_made_here", "_law_rank", "_law_one", "_law_other"]
theorem sc_law : FnScope ["_law_script", "_law_at", "_law_tank_here", "_law_text", "_law_turn", "_law_spot", "_law_made_here", "_law_rank", "_law_one", "_law_other"] ["_law_script"] (defScope s_law) := ⟨rfl, rfl, rfl, by decide +kernel, rfl, by decide +kernel, by decide +kernel⟩
theorem ok_law [mm : Memo] [Triv mm] [Still mm] (T : TX K mg) : FnG P w K mg base CX0 4 T.e_law.f T.e_law.fd ["_law_script"] (spD K 1 m_law) :=
  okG (k := 3) (n := 1) (m := 9) (Pn := []) T.e_law.fn sc_law rfl rfl (by decide) fun cdv A outer s H E hgd hr => by
    have hu := hr.units
    have hu2 := room128 hr
    exact (dss_cons (ds_for PassesOwn.never rfl (di_range1 (de_max2 rfl rfl T.b_max (do_ex de_int) (do_ex (de_min2 rfl rfl T.b_min (do_ex de_int) (do_ex (de_lenF 0 rfl T.b_len))))) rfl T.b_range) (dg_name sc_law.nd rfl (by first | exact Or.inl rfl | exact Or.inr rfl))
    (dss_cons (ds_set sc_law.nd rfl (by first | exact Or.inl rfl | exact Or.inr rfl) (de_call hgd (ok_tank T) (hr.mono (by decide)) rfl T.e_tank.mg T.e_tank.kp T.e_tank.bd (da_ex (de_name 0) (da_ex (de_name 1) da_nil))))
    (dss_cons (ds_set sc_law.nd rfl (by first | exact Or.inl rfl | exact Or.inr rfl) (de_join de_str (de_lc (own := [("_law_turn", 4)]) (n := 10) rfl sc_law.nd (di_range1 (de_call hgd (ok_tap T) (hr.mono (by decide)) rfl T.e_tap.mg T.e_tap.kp T.e_tap.bd (da_io 2 (da_ex de_int da_nil))) rfl T.b_range) (blkOk_by (N := n_law) (sc := defScope s_law) (by decide +kernel)) (fun _ _ _ _ _ => (dg_name sc_law.nd rfl (by first | exact Or.inl rfl | exact Or.inr rfl))) tgN_keep (fun _ _ _ _ _ => dts_nil) (fun _ _ _ _ _ => (de_ix (do_ex de_str) (do_ex (de_call hgd (ok_tap T) (hr.mono (by decide)) rfl T.e_tap.mg T.e_tap.kp T.e_tap.bd (da_io 2 (da_ex de_int da_nil)))))))))
    (dss_cons (ds_set sc_law.nd rfl (by first | exact Or.inl rfl | exact Or.inr rfl) (de_ix (do_ex (de_lst (dl_one de_non (dl_one de_int (dl_one (de_call hgd (ok_tap T) (hr.mono (by decide)) rfl T.e_tap.mg T.e_tap.kp T.e_tap.bd (da_io 2 (da_ex de_int da_nil))) (dl_one (de_pow (do_ex de_int) (do_ex de_int)) dl_nil)))))) (do_ex (de_call hgd (ok_tap T) (hr.mono (by decide)) rfl T.e_tap.mg T.e_tap.kp T.e_tap.bd (da_io 2 (da_ex de_int da_nil))))))
    (dss_cons (ds_set sc_law.nd rfl (by first | exact Or.inl rfl | exact Or.inr rfl) (de_call hgd (ok_made T) (hr.mono (by decide)) rfl T.e_made.mg T.e_made.kp T.e_made.bd (da_ex (de_name 3) (da_ex (de_name 5) da_nil))))
    (dss_cons (ds_for PassesOwn.never rfl (di_enum (de_name 6) rfl T.b_enumerate) (dg_tup rfl (dgs_cons (dg_name sc_law.nd rfl (by first | exact Or.inl rfl | exact Or.inr rfl)) (dgs_cons (dg_name sc_law.nd rfl (by first | exact Or.inl rfl | exact Or.inr rfl)) dgs_nil)) (tgCons_len (tgCons_len tgNil_len)))
    (dss_cons (ds_if (dt_w (dw_or (dt_not (dt_val (de_isE T.xg (fun n hn C h => T.xc n hn C (T.mgn n C h)) (c := .ref T.x_CrankError.C) (fun _ r => r) (pe_glob rfl T.x_CrankError.mg rfl) (fun n hn C h => T.k_CrankError n hn C (T.mgn n C h)) rfl T.b_isinstance (de_name 8)))) (dw_or1 (dt_not (dt_val (de_isE T.xg (fun n hn C h => T.xc n hn C (T.mgn n C h)) (c := .ty "ValueError") (fun _ r => r) (pe_bltn rfl T.b_ValueError (by decide +kernel) rfl) (fun n hn C h => T.k_ValueError n hn C (T.mgn n C h)) rfl T.b_isinstance (de_name 8))))))) (dss_one (ds_ret de_bl)) dss_nil)
    (dss_one (ds_if (dt_ne hu (do_ex (de_call hgd (ok_kinds T) (hr.mono (by decide)) rfl T.e_kinds.mg T.e_kinds.kp T.e_kinds.bd (da_ex (de_name 8) da_nil))) (do_ex (de_lc (own := [("_law_other", 9)]) (n := 10) rfl sc_law.nd (di_range1 de_int rfl T.b_range) (blkOk_by (N := n_law) (sc := defScope s_law) (by decide +kernel)) (fun _ _ _ _ _ => (dg_name sc_law.nd rfl (by first | exact Or.inl rfl | exact Or.inr rfl))) tgN_keep (fun _ _ _ _ _ => dts_nil) (fun _ _ _ _ _ => (de_eq hu (do_nm 9) (do_nm 7)))))) (dss_one (ds_ret de_bl)) dss_nil))))
    (dss_cons (ds_if (dt_w (dw_or (dt_not (dt_val (de_call hgd (ok_fields_right T) (hr.mono (by decide)) rfl T.e_fields_right.mg T.e_fields_right.kp T.e_fields_right.bd (da_ex (de_name 6) (da_ex (de_name 5) da_nil))))) (dw_or1 (dt_ne hu (do_ex (de_call hgd (ok_kinds T) (hr.mono (by decide)) rfl T.e_kinds.mg T.e_kinds.kp T.e_kinds.bd (da_ex (de_exN rfl PySem.F.excBase_ValueError T.x_CrankError.q T.x_CrankError.mg (T.h_CrankError _ T.x_CrankError.mg) T.x_CrankError.kp (raises_own T.x_CrankError.xc.ex T.x_CrankError.ty) rfl (de_name 3)) da_nil))) (do_ex (de_mul (do_ex (de_lst (dl_one de_bl dl_nil))) (do_ex de_int))))))) (dss_one (ds_ret de_bl)) dss_nil)
    (dss_one (ds_if (dt_not (dt_val (de_isE T.xg (fun n hn C h => T.xc n hn C (T.mgn n C h)) (c := .ty "ValueError") (fun _ r => r) (pe_bltn rfl T.b_ValueError (by decide +kernel) rfl) (fun n hn C h => T.k_ValueError n hn C (T.mgn n C h)) rfl T.b_isinstance (de_exN rfl PySem.F.excBase_ValueError T.x_CrankError.q T.x_CrankError.mg (T.h_CrankError _ T.x_CrankError.mg) T.x_CrankError.kp (raises_own T.x_CrankError.xc.ex T.x_CrankError.ty) rfl (de_name 3))))) (dss_one (ds_ret de_bl)) dss_nil)))))))))
    (dss_one (ds_ret de_bl)))

end
end CK
namespace CK
open PySem PySem.Spec PyProof.Rows L2

theorem all_mk {l : PySem.W.OpenLaw} {w : World} {K : PySem.W.Frag} {h : Heap} {mg : Str → Option Value} {fa : Addr} (X : K.In h) (G : h.Ns mainGlobals mg) (hfa : mg "law" = some (.ref fa))
    {f0 : Addr} {od0 an0 : Option Addr} {sl0 : Array (Option Value)} {oc0 kV0 dc0 pm0 cd0 ct0 : Value} (a0 : PySem.W.nsIn K mainGlobals "_law_tank" = some (some (.ref f0))) (l0 : K.lookup f0 = some ⟨oc0, od0, .func (PySem.W.fnOf "_law_tank" "_law_tank" (defArgs s_tank) (defBody s_tank) (defScope s_tank) .none kV0 dc0 pm0 an0 cd0 ct0), sl0⟩) (c0 : PySem.W.codeIn K cd0 "_law_tank" = true) (k0 : PySem.W.keepIn K (.ref f0) = true)
    {f1 : Addr} {od1 an1 : Option Addr} {sl1 : Array (Option Value)} {oc1 kV1 dc1 pm1 cd1 ct1 : Value} (a1 : PySem.W.nsIn K mainGlobals "_law_made" = some (some (.ref f1))) (l1 : K.lookup f1 = some ⟨oc1, od1, .func (PySem.W.fnOf "_law_made" "_law_made" (defArgs s_made) (defBody s_made) (defScope s_made) .none kV1 dc1 pm1 an1 cd1 ct1), sl1⟩) (c1 : PySem.W.codeIn K cd1 "_law_made" = true) (k1 : PySem.W.keepIn K (.ref f1) = true)
    {f2 : Addr} {od2 an2 : Option Addr} {sl2 : Array (Option Value)} {oc2 kV2 dc2 pm2 cd2 ct2 : Value} (a2 : PySem.W.nsIn K mainGlobals "_law_tap" = some (some (.ref f2))) (l2 : K.lookup f2 = some ⟨oc2, od2, .func (PySem.W.fnOf "_law_tap" "_law_tap" (defArgs s_tap) (defBody s_tap) (defScope s_tap) .none kV2 dc2 pm2 an2 cd2 ct2), sl2⟩) (c2 : PySem.W.codeIn K cd2 "_law_tap" = true) (k2 : PySem.W.keepIn K (.ref f2) = true)
    {f3 : Addr} {od3 an3 : Option Addr} {sl3 : Array (Option Value)} {oc3 kV3 dc3 pm3 cd3 ct3 : Value} (a3 : PySem.W.nsIn K mainGlobals "_law_kinds" = some (some (.ref f3))) (l3 : K.lookup f3 = some ⟨oc3, od3, .func (PySem.W.fnOf "_law_kinds" "_law_kinds" (defArgs s_kinds) (defBody s_kinds) (defScope s_kinds) .none kV3 dc3 pm3 an3 cd3 ct3), sl3⟩) (c3 : PySem.W.codeIn K cd3 "_law_kinds" = true) (k3 : PySem.W.keepIn K (.ref f3) = true)
    {f4 : Addr} {od4 an4 : Option Addr} {sl4 : Array (Option Value)} {oc4 kV4 dc4 pm4 cd4 ct4 : Value} (a4 : PySem.W.nsIn K mainGlobals "_law_fields_right" = some (some (.ref f4))) (l4 : K.lookup f4 = some ⟨oc4, od4, .func (PySem.W.fnOf "_law_fields_right" "_law_fields_right" (defArgs s_fields_right) (defBody s_fields_right) (defScope s_fields_right) .none kV4 dc4 pm4 an4 cd4 ct4), sl4⟩) (c4 : PySem.W.codeIn K cd4 "_law_fields_right" = true) (k4 : PySem.W.keepIn K (.ref f4) = true)
    {f5 : Addr} {od5 an5 : Option Addr} {sl5 : Array (Option Value)} {oc5 kV5 dc5 pm5 cd5 ct5 : Value} (a5 : PySem.W.nsIn K mainGlobals "law" = some (some (.ref f5))) (l5 : K.lookup f5 = some ⟨oc5, od5, .func (PySem.W.fnOf "law" "law" (defArgs s_law) (defBody s_law) (defScope s_law) .none kV5 dc5 pm5 an5 cd5 ct5), sl5⟩) (c5 : PySem.W.codeIn K cd5 "law" = true) (k5 : PySem.W.keepIn K (.ref f5) = true)
    {C_CrankError : Addr} (xa_CrankError : PySem.W.nsIn K mainGlobals "CrankError" = some (some (.ref C_CrankError)))
    {C_Impossible : Addr} (xa_Impossible : PySem.W.nsIn K mainGlobals "Impossible" = some (some (.ref C_Impossible)))
    {C_InvalidCommand : Addr} (xa_InvalidCommand : PySem.W.nsIn K mainGlobals "InvalidCommand" = some (some (.ref C_InvalidCommand)))
    {C_InvalidCounter : Addr} (xa_InvalidCounter : PySem.W.nsIn K mainGlobals "InvalidCounter" = some (some (.ref C_InvalidCounter)))
    {C_InvalidCranks : Addr} (xa_InvalidCranks : PySem.W.nsIn K mainGlobals "InvalidCranks" = some (some (.ref C_InvalidCranks)))
    {C_InvalidMachine : Addr} (xa_InvalidMachine : PySem.W.nsIn K mainGlobals "InvalidMachine" = some (some (.ref C_InvalidMachine)))
    {C_InvalidNumber : Addr} (xa_InvalidNumber : PySem.W.nsIn K mainGlobals "InvalidNumber" = some (some (.ref C_InvalidNumber)))
    {C_InvalidPlace : Addr} (xa_InvalidPlace : PySem.W.nsIn K mainGlobals "InvalidPlace" = some (some (.ref C_InvalidPlace)))
    {C_InvalidPlan : Addr} (xa_InvalidPlan : PySem.W.nsIn K mainGlobals "InvalidPlan" = some (some (.ref C_InvalidPlan)))
    {C_InvalidRegister : Addr} (xa_InvalidRegister : PySem.W.nsIn K mainGlobals "InvalidRegister" = some (some (.ref C_InvalidRegister)))
    {C_InvalidSetting : Addr} (xa_InvalidSetting : PySem.W.nsIn K mainGlobals "InvalidSetting" = some (some (.ref C_InvalidSetting)))
    {C_InvalidSyntax : Addr} (xa_InvalidSyntax : PySem.W.nsIn K mainGlobals "InvalidSyntax" = some (some (.ref C_InvalidSyntax)))
    {C_InvalidTurns : Addr} (xa_InvalidTurns : PySem.W.nsIn K mainGlobals "InvalidTurns" = some (some (.ref C_InvalidTurns)))
    {C_NothingToUndo : Addr} (xa_NothingToUndo : PySem.W.nsIn K mainGlobals "NothingToUndo" = some (some (.ref C_NothingToUndo)))
    (xgt : PySem.W.specialIn K (.builtin "object.__class__") "__get__" = some (some (.builtin "getset_descriptor.__get__"))) (xtk : PySem.W.takesIn K (.builtin "object.__class__") = some true) (xb1 : PySem.W.specialIn K (.ref C_CrankError) "__getattribute__" = some (some (.builtin "type.__getattribute__"))) (xb2 : PySem.W.readsIn K C_CrankError (.type "type") = true) (xb3 : PySem.W.findCls K (.ref C_CrankError) (.type "type") "__init__" = some (.val (.builtin "ValueError.__init__")))
    (ga_CrankError : PySem.W.findIn K (.ref C_CrankError) "__getattribute__" = some (some (.builtin "BaseException.__getattribute__")))
    (gg_CrankError : PySem.W.findIn K (.ref C_CrankError) "__getattr__" = some none)
    (ex_CrankError : PySem.W.subIn K (.ref C_CrankError) (.type "BaseException") = some true)
    (hd_CrankError : PySem.W.hasDictIn K C_CrankError = true)
    (cl_CrankError : PySem.W.findIn K (.ref C_CrankError) "__class__" = some (some (.builtin "object.__class__")))
    (mo_CrankError : PySem.W.mroIn K C_CrankError (.type "object") = some true)
    (kp_CrankError : PySem.W.keepIn K (.ref C_CrankError) = true)
    (ty_CrankError : PySem.W.typeIn K (.ref C_CrankError) = some (.type "type"))
    (q_CrankError : PySem.W.excIn K C_CrankError [.type "ValueError", .type "Exception", .type "BaseException", .type "object"] "ValueError.__new__" = true)
    (ga_Impossible : PySem.W.findIn K (.ref C_Impossible) "__getattribute__" = some (some (.builtin "BaseException.__getattribute__")))
    (gg_Impossible : PySem.W.findIn K (.ref C_Impossible) "__getattr__" = some none)
    (ex_Impossible : PySem.W.subIn K (.ref C_Impossible) (.type "BaseException") = some true)
    (hd_Impossible : PySem.W.hasDictIn K C_Impossible = true)
    (cl_Impossible : PySem.W.findIn K (.ref C_Impossible) "__class__" = some (some (.builtin "object.__class__")))
    (mo_Impossible : PySem.W.mroIn K C_Impossible (.type "object") = some true)
    (kp_Impossible : PySem.W.keepIn K (.ref C_Impossible) = true)
    (ty_Impossible : PySem.W.typeIn K (.ref C_Impossible) = some (.type "type"))
    (q_Impossible : PySem.W.excIn K C_Impossible [.type "ValueError", .type "Exception", .type "BaseException", .type "object"] "ValueError.__new__" = true)
    (ga_InvalidCommand : PySem.W.findIn K (.ref C_InvalidCommand) "__getattribute__" = some (some (.builtin "BaseException.__getattribute__")))
    (gg_InvalidCommand : PySem.W.findIn K (.ref C_InvalidCommand) "__getattr__" = some none)
    (ex_InvalidCommand : PySem.W.subIn K (.ref C_InvalidCommand) (.type "BaseException") = some true)
    (hd_InvalidCommand : PySem.W.hasDictIn K C_InvalidCommand = true)
    (cl_InvalidCommand : PySem.W.findIn K (.ref C_InvalidCommand) "__class__" = some (some (.builtin "object.__class__")))
    (mo_InvalidCommand : PySem.W.mroIn K C_InvalidCommand (.type "object") = some true)
    (kp_InvalidCommand : PySem.W.keepIn K (.ref C_InvalidCommand) = true)
    (ty_InvalidCommand : PySem.W.typeIn K (.ref C_InvalidCommand) = some (.type "type"))
    (q_InvalidCommand : PySem.W.excIn K C_InvalidCommand [.type "ValueError", .type "Exception", .type "BaseException", .type "object"] "ValueError.__new__" = true)
    (ga_InvalidCounter : PySem.W.findIn K (.ref C_InvalidCounter) "__getattribute__" = some (some (.builtin "BaseException.__getattribute__")))
    (gg_InvalidCounter : PySem.W.findIn K (.ref C_InvalidCounter) "__getattr__" = some none)
    (ex_InvalidCounter : PySem.W.subIn K (.ref C_InvalidCounter) (.type "BaseException") = some true)
    (hd_InvalidCounter : PySem.W.hasDictIn K C_InvalidCounter = true)
    (cl_InvalidCounter : PySem.W.findIn K (.ref C_InvalidCounter) "__class__" = some (some (.builtin "object.__class__")))
    (mo_InvalidCounter : PySem.W.mroIn K C_InvalidCounter (.type "object") = some true)
    (kp_InvalidCounter : PySem.W.keepIn K (.ref C_InvalidCounter) = true)
    (ty_InvalidCounter : PySem.W.typeIn K (.ref C_InvalidCounter) = some (.type "type"))
    {nm_InvalidCounter qn_InvalidCounter : Str} {ns_InvalidCounter fI_InvalidCounter : Addr} {bs_InvalidCounter : List Value} {sn_InvalidCounter : List Str} {sub_InvalidCounter : List Value} {ab_InvalidCounter : Bool} {col_InvalidCounter : Option Bool} {dd_InvalidCounter : Option Addr} {m0_InvalidCounter m1_InvalidCounter m2_InvalidCounter m3_InvalidCounter m5_InvalidCounter : Option Value}
    (lk_InvalidCounter : K.lookup C_InvalidCounter = some (excClassObj nm_InvalidCounter qn_InvalidCounter C_InvalidCounter ns_InvalidCounter bs_InvalidCounter [.ref C_CrankError, .type "ValueError", .type "Exception", .type "BaseException", .type "object"] true sn_InvalidCounter sub_InvalidCounter ab_InvalidCounter col_InvalidCounter dd_InvalidCounter m0_InvalidCounter m1_InvalidCounter m2_InvalidCounter m3_InvalidCounter m5_InvalidCounter "ValueError.__new__"))
    (sa_InvalidCounter : PySem.W.findIn K (.ref C_InvalidCounter) "__setattr__" = some (some (.builtin "object.__setattr__"))) (ii_InvalidCounter : PySem.W.findIn K (.ref C_InvalidCounter) "__init__" = some (some (.ref fI_InvalidCounter))) (it_InvalidCounter : PySem.W.typeIn K (.ref fI_InvalidCounter) = some (.type "function"))
    {io_InvalidCounter ia_InvalidCounter : Option Addr} {is_InvalidCounter : Array (Option Value)} {ic_InvalidCounter iV_InvalidCounter id_InvalidCounter ip_InvalidCounter ie_InvalidCounter iu_InvalidCounter : Value} (il_InvalidCounter : K.lookup fI_InvalidCounter = some ⟨ic_InvalidCounter, io_InvalidCounter, .func (PySem.W.fnOf "__init__" "InvalidCounter.__init__" (defArgs s_i_InvalidCounter) (defBody s_i_InvalidCounter) (defScope s_i_InvalidCounter) .none iV_InvalidCounter id_InvalidCounter ip_InvalidCounter ia_InvalidCounter ie_InvalidCounter iu_InvalidCounter), is_InvalidCounter⟩) (iq_InvalidCounter : PySem.W.codeIn K ie_InvalidCounter "InvalidCounter.__init__" = true) (ik_InvalidCounter : PySem.W.keepIn K (.ref fI_InvalidCounter) = true)
    (no_InvalidCounter : PySem.W.findIn K (.ref C_InvalidCounter) "index" = some none)
    (ga_InvalidCranks : PySem.W.findIn K (.ref C_InvalidCranks) "__getattribute__" = some (some (.builtin "BaseException.__getattribute__")))
    (gg_InvalidCranks : PySem.W.findIn K (.ref C_InvalidCranks) "__getattr__" = some none)
    (ex_InvalidCranks : PySem.W.subIn K (.ref C_InvalidCranks) (.type "BaseException") = some true)
    (hd_InvalidCranks : PySem.W.hasDictIn K C_InvalidCranks = true)
    (cl_InvalidCranks : PySem.W.findIn K (.ref C_InvalidCranks) "__class__" = some (some (.builtin "object.__class__")))
    (mo_InvalidCranks : PySem.W.mroIn K C_InvalidCranks (.type "object") = some true)
    (kp_InvalidCranks : PySem.W.keepIn K (.ref C_InvalidCranks) = true)
    (ty_InvalidCranks : PySem.W.typeIn K (.ref C_InvalidCranks) = some (.type "type"))
    {nm_InvalidCranks qn_InvalidCranks : Str} {ns_InvalidCranks fI_InvalidCranks : Addr} {bs_InvalidCranks : List Value} {sn_InvalidCranks : List Str} {sub_InvalidCranks : List Value} {ab_InvalidCranks : Bool} {col_InvalidCranks : Option Bool} {dd_InvalidCranks : Option Addr} {m0_InvalidCranks m1_InvalidCranks m2_InvalidCranks m3_InvalidCranks m5_InvalidCranks : Option Value}
    (lk_InvalidCranks : K.lookup C_InvalidCranks = some (excClassObj nm_InvalidCranks qn_InvalidCranks C_InvalidCranks ns_InvalidCranks bs_InvalidCranks [.ref C_CrankError, .type "ValueError", .type "Exception", .type "BaseException", .type "object"] true sn_InvalidCranks sub_InvalidCranks ab_InvalidCranks col_InvalidCranks dd_InvalidCranks m0_InvalidCranks m1_InvalidCranks m2_InvalidCranks m3_InvalidCranks m5_InvalidCranks "ValueError.__new__"))
    (sa_InvalidCranks : PySem.W.findIn K (.ref C_InvalidCranks) "__setattr__" = some (some (.builtin "object.__setattr__"))) (ii_InvalidCranks : PySem.W.findIn K (.ref C_InvalidCranks) "__init__" = some (some (.ref fI_InvalidCranks))) (it_InvalidCranks : PySem.W.typeIn K (.ref fI_InvalidCranks) = some (.type "function"))
    {io_InvalidCranks ia_InvalidCranks : Option Addr} {is_InvalidCranks : Array (Option Value)} {ic_InvalidCranks iV_InvalidCranks id_InvalidCranks ip_InvalidCranks ie_InvalidCranks iu_InvalidCranks : Value} (il_InvalidCranks : K.lookup fI_InvalidCranks = some ⟨ic_InvalidCranks, io_InvalidCranks, .func (PySem.W.fnOf "__init__" "InvalidCranks.__init__" (defArgs s_i_InvalidCranks) (defBody s_i_InvalidCranks) (defScope s_i_InvalidCranks) .none iV_InvalidCranks id_InvalidCranks ip_InvalidCranks ia_InvalidCranks ie_InvalidCranks iu_InvalidCranks), is_InvalidCranks⟩) (iq_InvalidCranks : PySem.W.codeIn K ie_InvalidCranks "InvalidCranks.__init__" = true) (ik_InvalidCranks : PySem.W.keepIn K (.ref fI_InvalidCranks) = true)
    (no_InvalidCranks : PySem.W.findIn K (.ref C_InvalidCranks) "index" = some none)
    (ga_InvalidMachine : PySem.W.findIn K (.ref C_InvalidMachine) "__getattribute__" = some (some (.builtin "BaseException.__getattribute__")))
    (gg_InvalidMachine : PySem.W.findIn K (.ref C_InvalidMachine) "__getattr__" = some none)
    (ex_InvalidMachine : PySem.W.subIn K (.ref C_InvalidMachine) (.type "BaseException") = some true)
    (hd_InvalidMachine : PySem.W.hasDictIn K C_InvalidMachine = true)
    (cl_InvalidMachine : PySem.W.findIn K (.ref C_InvalidMachine) "__class__" = some (some (.builtin "object.__class__")))
    (mo_InvalidMachine : PySem.W.mroIn K C_InvalidMachine (.type "object") = some true)
    (kp_InvalidMachine : PySem.W.keepIn K (.ref C_InvalidMachine) = true)
    (ty_InvalidMachine : PySem.W.typeIn K (.ref C_InvalidMachine) = some (.type "type"))
    {nm_InvalidMachine qn_InvalidMachine : Str} {ns_InvalidMachine fI_InvalidMachine : Addr} {bs_InvalidMachine : List Value} {sn_InvalidMachine : List Str} {sub_InvalidMachine : List Value} {ab_InvalidMachine : Bool} {col_InvalidMachine : Option Bool} {dd_InvalidMachine : Option Addr} {m0_InvalidMachine m1_InvalidMachine m2_InvalidMachine m3_InvalidMachine m5_InvalidMachine : Option Value}
    (lk_InvalidMachine : K.lookup C_InvalidMachine = some (excClassObj nm_InvalidMachine qn_InvalidMachine C_InvalidMachine ns_InvalidMachine bs_InvalidMachine [.ref C_CrankError, .type "ValueError", .type "Exception", .type "BaseException", .type "object"] true sn_InvalidMachine sub_InvalidMachine ab_InvalidMachine col_InvalidMachine dd_InvalidMachine m0_InvalidMachine m1_InvalidMachine m2_InvalidMachine m3_InvalidMachine m5_InvalidMachine "ValueError.__new__"))
    (sa_InvalidMachine : PySem.W.findIn K (.ref C_InvalidMachine) "__setattr__" = some (some (.builtin "object.__setattr__"))) (ii_InvalidMachine : PySem.W.findIn K (.ref C_InvalidMachine) "__init__" = some (some (.ref fI_InvalidMachine))) (it_InvalidMachine : PySem.W.typeIn K (.ref fI_InvalidMachine) = some (.type "function"))
    {io_InvalidMachine ia_InvalidMachine : Option Addr} {is_InvalidMachine : Array (Option Value)} {ic_InvalidMachine iV_InvalidMachine id_InvalidMachine ip_InvalidMachine ie_InvalidMachine iu_InvalidMachine : Value} (il_InvalidMachine : K.lookup fI_InvalidMachine = some ⟨ic_InvalidMachine, io_InvalidMachine, .func (PySem.W.fnOf "__init__" "InvalidMachine.__init__" (defArgs s_i_InvalidMachine) (defBody s_i_InvalidMachine) (defScope s_i_InvalidMachine) .none iV_InvalidMachine id_InvalidMachine ip_InvalidMachine ia_InvalidMachine ie_InvalidMachine iu_InvalidMachine), is_InvalidMachine⟩) (iq_InvalidMachine : PySem.W.codeIn K ie_InvalidMachine "InvalidMachine.__init__" = true) (ik_InvalidMachine : PySem.W.keepIn K (.ref fI_InvalidMachine) = true)
    (no_InvalidMachine : PySem.W.findIn K (.ref C_InvalidMachine) "index" = some none)
    (ga_InvalidNumber : PySem.W.findIn K (.ref C_InvalidNumber) "__getattribute__" = some (some (.builtin "BaseException.__getattribute__")))
    (gg_InvalidNumber : PySem.W.findIn K (.ref C_InvalidNumber) "__getattr__" = some none)
    (ex_InvalidNumber : PySem.W.subIn K (.ref C_InvalidNumber) (.type "BaseException") = some true)
    (hd_InvalidNumber : PySem.W.hasDictIn K C_InvalidNumber = true)
    (cl_InvalidNumber : PySem.W.findIn K (.ref C_InvalidNumber) "__class__" = some (some (.builtin "object.__class__")))
    (mo_InvalidNumber : PySem.W.mroIn K C_InvalidNumber (.type "object") = some true)
    (kp_InvalidNumber : PySem.W.keepIn K (.ref C_InvalidNumber) = true)
    (ty_InvalidNumber : PySem.W.typeIn K (.ref C_InvalidNumber) = some (.type "type"))
    (q_InvalidNumber : PySem.W.excIn K C_InvalidNumber [.type "ValueError", .type "Exception", .type "BaseException", .type "object"] "ValueError.__new__" = true)
    (ga_InvalidPlace : PySem.W.findIn K (.ref C_InvalidPlace) "__getattribute__" = some (some (.builtin "BaseException.__getattribute__")))
    (gg_InvalidPlace : PySem.W.findIn K (.ref C_InvalidPlace) "__getattr__" = some none)
    (ex_InvalidPlace : PySem.W.subIn K (.ref C_InvalidPlace) (.type "BaseException") = some true)
    (hd_InvalidPlace : PySem.W.hasDictIn K C_InvalidPlace = true)
    (cl_InvalidPlace : PySem.W.findIn K (.ref C_InvalidPlace) "__class__" = some (some (.builtin "object.__class__")))
    (mo_InvalidPlace : PySem.W.mroIn K C_InvalidPlace (.type "object") = some true)
    (kp_InvalidPlace : PySem.W.keepIn K (.ref C_InvalidPlace) = true)
    (ty_InvalidPlace : PySem.W.typeIn K (.ref C_InvalidPlace) = some (.type "type"))
    (q_InvalidPlace : PySem.W.excIn K C_InvalidPlace [.type "ValueError", .type "Exception", .type "BaseException", .type "object"] "ValueError.__new__" = true)
    (ga_InvalidPlan : PySem.W.findIn K (.ref C_InvalidPlan) "__getattribute__" = some (some (.builtin "BaseException.__getattribute__")))
    (gg_InvalidPlan : PySem.W.findIn K (.ref C_InvalidPlan) "__getattr__" = some none)
    (ex_InvalidPlan : PySem.W.subIn K (.ref C_InvalidPlan) (.type "BaseException") = some true)
    (hd_InvalidPlan : PySem.W.hasDictIn K C_InvalidPlan = true)
    (cl_InvalidPlan : PySem.W.findIn K (.ref C_InvalidPlan) "__class__" = some (some (.builtin "object.__class__")))
    (mo_InvalidPlan : PySem.W.mroIn K C_InvalidPlan (.type "object") = some true)
    (kp_InvalidPlan : PySem.W.keepIn K (.ref C_InvalidPlan) = true)
    (ty_InvalidPlan : PySem.W.typeIn K (.ref C_InvalidPlan) = some (.type "type"))
    {nm_InvalidPlan qn_InvalidPlan : Str} {ns_InvalidPlan fI_InvalidPlan : Addr} {bs_InvalidPlan : List Value} {sn_InvalidPlan : List Str} {sub_InvalidPlan : List Value} {ab_InvalidPlan : Bool} {col_InvalidPlan : Option Bool} {dd_InvalidPlan : Option Addr} {m0_InvalidPlan m1_InvalidPlan m2_InvalidPlan m3_InvalidPlan m5_InvalidPlan : Option Value}
    (lk_InvalidPlan : K.lookup C_InvalidPlan = some (excClassObj nm_InvalidPlan qn_InvalidPlan C_InvalidPlan ns_InvalidPlan bs_InvalidPlan [.ref C_CrankError, .type "ValueError", .type "Exception", .type "BaseException", .type "object"] true sn_InvalidPlan sub_InvalidPlan ab_InvalidPlan col_InvalidPlan dd_InvalidPlan m0_InvalidPlan m1_InvalidPlan m2_InvalidPlan m3_InvalidPlan m5_InvalidPlan "ValueError.__new__"))
    (sa_InvalidPlan : PySem.W.findIn K (.ref C_InvalidPlan) "__setattr__" = some (some (.builtin "object.__setattr__"))) (ii_InvalidPlan : PySem.W.findIn K (.ref C_InvalidPlan) "__init__" = some (some (.ref fI_InvalidPlan))) (it_InvalidPlan : PySem.W.typeIn K (.ref fI_InvalidPlan) = some (.type "function"))
    {io_InvalidPlan ia_InvalidPlan : Option Addr} {is_InvalidPlan : Array (Option Value)} {ic_InvalidPlan iV_InvalidPlan id_InvalidPlan ip_InvalidPlan ie_InvalidPlan iu_InvalidPlan : Value} (il_InvalidPlan : K.lookup fI_InvalidPlan = some ⟨ic_InvalidPlan, io_InvalidPlan, .func (PySem.W.fnOf "__init__" "InvalidPlan.__init__" (defArgs s_i_InvalidPlan) (defBody s_i_InvalidPlan) (defScope s_i_InvalidPlan) .none iV_InvalidPlan id_InvalidPlan ip_InvalidPlan ia_InvalidPlan ie_InvalidPlan iu_InvalidPlan), is_InvalidPlan⟩) (iq_InvalidPlan : PySem.W.codeIn K ie_InvalidPlan "InvalidPlan.__init__" = true) (ik_InvalidPlan : PySem.W.keepIn K (.ref fI_InvalidPlan) = true)
    (no_InvalidPlan : PySem.W.findIn K (.ref C_InvalidPlan) "index" = some none)
    (ga_InvalidRegister : PySem.W.findIn K (.ref C_InvalidRegister) "__getattribute__" = some (some (.builtin "BaseException.__getattribute__")))
    (gg_InvalidRegister : PySem.W.findIn K (.ref C_InvalidRegister) "__getattr__" = some none)
    (ex_InvalidRegister : PySem.W.subIn K (.ref C_InvalidRegister) (.type "BaseException") = some true)
    (hd_InvalidRegister : PySem.W.hasDictIn K C_InvalidRegister = true)
    (cl_InvalidRegister : PySem.W.findIn K (.ref C_InvalidRegister) "__class__" = some (some (.builtin "object.__class__")))
    (mo_InvalidRegister : PySem.W.mroIn K C_InvalidRegister (.type "object") = some true)
    (kp_InvalidRegister : PySem.W.keepIn K (.ref C_InvalidRegister) = true)
    (ty_InvalidRegister : PySem.W.typeIn K (.ref C_InvalidRegister) = some (.type "type"))
    (q_InvalidRegister : PySem.W.excIn K C_InvalidRegister [.type "ValueError", .type "Exception", .type "BaseException", .type "object"] "ValueError.__new__" = true)
    (ga_InvalidSetting : PySem.W.findIn K (.ref C_InvalidSetting) "__getattribute__" = some (some (.builtin "BaseException.__getattribute__")))
    (gg_InvalidSetting : PySem.W.findIn K (.ref C_InvalidSetting) "__getattr__" = some none)
    (ex_InvalidSetting : PySem.W.subIn K (.ref C_InvalidSetting) (.type "BaseException") = some true)
    (hd_InvalidSetting : PySem.W.hasDictIn K C_InvalidSetting = true)
    (cl_InvalidSetting : PySem.W.findIn K (.ref C_InvalidSetting) "__class__" = some (some (.builtin "object.__class__")))
    (mo_InvalidSetting : PySem.W.mroIn K C_InvalidSetting (.type "object") = some true)
    (kp_InvalidSetting : PySem.W.keepIn K (.ref C_InvalidSetting) = true)
    (ty_InvalidSetting : PySem.W.typeIn K (.ref C_InvalidSetting) = some (.type "type"))
    (q_InvalidSetting : PySem.W.excIn K C_InvalidSetting [.type "ValueError", .type "Exception", .type "BaseException", .type "object"] "ValueError.__new__" = true)
    (ga_InvalidSyntax : PySem.W.findIn K (.ref C_InvalidSyntax) "__getattribute__" = some (some (.builtin "BaseException.__getattribute__")))
    (gg_InvalidSyntax : PySem.W.findIn K (.ref C_InvalidSyntax) "__getattr__" = some none)
    (ex_InvalidSyntax : PySem.W.subIn K (.ref C_InvalidSyntax) (.type "BaseException") = some true)
    (hd_InvalidSyntax : PySem.W.hasDictIn K C_InvalidSyntax = true)
    (cl_InvalidSyntax : PySem.W.findIn K (.ref C_InvalidSyntax) "__class__" = some (some (.builtin "object.__class__")))
    (mo_InvalidSyntax : PySem.W.mroIn K C_InvalidSyntax (.type "object") = some true)
    (kp_InvalidSyntax : PySem.W.keepIn K (.ref C_InvalidSyntax) = true)
    (ty_InvalidSyntax : PySem.W.typeIn K (.ref C_InvalidSyntax) = some (.type "type"))
    {nm_InvalidSyntax qn_InvalidSyntax : Str} {ns_InvalidSyntax fI_InvalidSyntax : Addr} {bs_InvalidSyntax : List Value} {sn_InvalidSyntax : List Str} {sub_InvalidSyntax : List Value} {ab_InvalidSyntax : Bool} {col_InvalidSyntax : Option Bool} {dd_InvalidSyntax : Option Addr} {m0_InvalidSyntax m1_InvalidSyntax m2_InvalidSyntax m3_InvalidSyntax m5_InvalidSyntax : Option Value}
    (lk_InvalidSyntax : K.lookup C_InvalidSyntax = some (excClassObj nm_InvalidSyntax qn_InvalidSyntax C_InvalidSyntax ns_InvalidSyntax bs_InvalidSyntax [.ref C_CrankError, .type "ValueError", .type "Exception", .type "BaseException", .type "object"] true sn_InvalidSyntax sub_InvalidSyntax ab_InvalidSyntax col_InvalidSyntax dd_InvalidSyntax m0_InvalidSyntax m1_InvalidSyntax m2_InvalidSyntax m3_InvalidSyntax m5_InvalidSyntax "ValueError.__new__"))
    (sa_InvalidSyntax : PySem.W.findIn K (.ref C_InvalidSyntax) "__setattr__" = some (some (.builtin "object.__setattr__"))) (ii_InvalidSyntax : PySem.W.findIn K (.ref C_InvalidSyntax) "__init__" = some (some (.ref fI_InvalidSyntax))) (it_InvalidSyntax : PySem.W.typeIn K (.ref fI_InvalidSyntax) = some (.type "function"))
    {io_InvalidSyntax ia_InvalidSyntax : Option Addr} {is_InvalidSyntax : Array (Option Value)} {ic_InvalidSyntax iV_InvalidSyntax id_InvalidSyntax ip_InvalidSyntax ie_InvalidSyntax iu_InvalidSyntax : Value} (il_InvalidSyntax : K.lookup fI_InvalidSyntax = some ⟨ic_InvalidSyntax, io_InvalidSyntax, .func (PySem.W.fnOf "__init__" "InvalidSyntax.__init__" (defArgs s_i_InvalidSyntax) (defBody s_i_InvalidSyntax) (defScope s_i_InvalidSyntax) .none iV_InvalidSyntax id_InvalidSyntax ip_InvalidSyntax ia_InvalidSyntax ie_InvalidSyntax iu_InvalidSyntax), is_InvalidSyntax⟩) (iq_InvalidSyntax : PySem.W.codeIn K ie_InvalidSyntax "InvalidSyntax.__init__" = true) (ik_InvalidSyntax : PySem.W.keepIn K (.ref fI_InvalidSyntax) = true)
    (no_InvalidSyntax : PySem.W.findIn K (.ref C_InvalidSyntax) "word" = some none)
    (ga_InvalidTurns : PySem.W.findIn K (.ref C_InvalidTurns) "__getattribute__" = some (some (.builtin "BaseException.__getattribute__")))
    (gg_InvalidTurns : PySem.W.findIn K (.ref C_InvalidTurns) "__getattr__" = some none)
    (ex_InvalidTurns : PySem.W.subIn K (.ref C_InvalidTurns) (.type "BaseException") = some true)
    (hd_InvalidTurns : PySem.W.hasDictIn K C_InvalidTurns = true)
    (cl_InvalidTurns : PySem.W.findIn K (.ref C_InvalidTurns) "__class__" = some (some (.builtin "object.__class__")))
    (mo_InvalidTurns : PySem.W.mroIn K C_InvalidTurns (.type "object") = some true)
    (kp_InvalidTurns : PySem.W.keepIn K (.ref C_InvalidTurns) = true)
    (ty_InvalidTurns : PySem.W.typeIn K (.ref C_InvalidTurns) = some (.type "type"))
    (q_InvalidTurns : PySem.W.excIn K C_InvalidTurns [.type "ValueError", .type "Exception", .type "BaseException", .type "object"] "ValueError.__new__" = true)
    (ga_NothingToUndo : PySem.W.findIn K (.ref C_NothingToUndo) "__getattribute__" = some (some (.builtin "BaseException.__getattribute__")))
    (gg_NothingToUndo : PySem.W.findIn K (.ref C_NothingToUndo) "__getattr__" = some none)
    (ex_NothingToUndo : PySem.W.subIn K (.ref C_NothingToUndo) (.type "BaseException") = some true)
    (hd_NothingToUndo : PySem.W.hasDictIn K C_NothingToUndo = true)
    (cl_NothingToUndo : PySem.W.findIn K (.ref C_NothingToUndo) "__class__" = some (some (.builtin "object.__class__")))
    (mo_NothingToUndo : PySem.W.mroIn K C_NothingToUndo (.type "object") = some true)
    (kp_NothingToUndo : PySem.W.keepIn K (.ref C_NothingToUndo) = true)
    (ty_NothingToUndo : PySem.W.typeIn K (.ref C_NothingToUndo) = some (.type "type"))
    (q_NothingToUndo : PySem.W.excIn K C_NothingToUndo [.type "ValueError", .type "Exception", .type "BaseException", .type "object"] "ValueError.__new__" = true)
    (em_CrankError : PySem.W.subIn K (.ref C_CrankError) (.ref C_CrankError) = some true)
    (em_Impossible : PySem.W.subIn K (.ref C_Impossible) (.ref C_CrankError) = some true)
    (em_InvalidCommand : PySem.W.subIn K (.ref C_InvalidCommand) (.ref C_CrankError) = some true)
    (em_InvalidCounter : PySem.W.subIn K (.ref C_InvalidCounter) (.ref C_CrankError) = some true)
    (em_InvalidCranks : PySem.W.subIn K (.ref C_InvalidCranks) (.ref C_CrankError) = some true)
    (em_InvalidMachine : PySem.W.subIn K (.ref C_InvalidMachine) (.ref C_CrankError) = some true)
    (em_InvalidNumber : PySem.W.subIn K (.ref C_InvalidNumber) (.ref C_CrankError) = some true)
    (em_InvalidPlace : PySem.W.subIn K (.ref C_InvalidPlace) (.ref C_CrankError) = some true)
    (em_InvalidPlan : PySem.W.subIn K (.ref C_InvalidPlan) (.ref C_CrankError) = some true)
    (em_InvalidRegister : PySem.W.subIn K (.ref C_InvalidRegister) (.ref C_CrankError) = some true)
    (em_InvalidSetting : PySem.W.subIn K (.ref C_InvalidSetting) (.ref C_CrankError) = some true)
    (em_InvalidSyntax : PySem.W.subIn K (.ref C_InvalidSyntax) (.ref C_CrankError) = some true)
    (em_InvalidTurns : PySem.W.subIn K (.ref C_InvalidTurns) (.ref C_CrankError) = some true)
    (em_NothingToUndo : PySem.W.subIn K (.ref C_NothingToUndo) (.ref C_CrankError) = some true)
    (ex_0 : PySem.W.subIn K (.ref C_CrankError) (.type "BaseException") = some true) (hd_0 : PySem.W.hasDictIn K C_CrankError = true) (ty_0 : PySem.W.typeIn K (.ref C_CrankError) = some (.type "type"))
    (kt_CrankError_CrankError : PySem.W.kitOne K (.ref C_CrankError) (.ref C_CrankError) = some true)
    (kt_Impossible_CrankError : PySem.W.kitOne K (.ref C_Impossible) (.ref C_CrankError) = some true)
    (kt_InvalidCommand_CrankError : PySem.W.kitOne K (.ref C_InvalidCommand) (.ref C_CrankError) = some true)
    (kt_InvalidCounter_CrankError : PySem.W.kitOne K (.ref C_InvalidCounter) (.ref C_CrankError) = some true)
    (kt_InvalidCranks_CrankError : PySem.W.kitOne K (.ref C_InvalidCranks) (.ref C_CrankError) = some true)
    (kt_InvalidMachine_CrankError : PySem.W.kitOne K (.ref C_InvalidMachine) (.ref C_CrankError) = some true)
    (kt_InvalidNumber_CrankError : PySem.W.kitOne K (.ref C_InvalidNumber) (.ref C_CrankError) = some true)
    (kt_InvalidPlace_CrankError : PySem.W.kitOne K (.ref C_InvalidPlace) (.ref C_CrankError) = some true)
    (kt_InvalidPlan_CrankError : PySem.W.kitOne K (.ref C_InvalidPlan) (.ref C_CrankError) = some true)
    (kt_InvalidRegister_CrankError : PySem.W.kitOne K (.ref C_InvalidRegister) (.ref C_CrankError) = some true)
    (kt_InvalidSetting_CrankError : PySem.W.kitOne K (.ref C_InvalidSetting) (.ref C_CrankError) = some true)
    (kt_InvalidSyntax_CrankError : PySem.W.kitOne K (.ref C_InvalidSyntax) (.ref C_CrankError) = some true)
    (kt_InvalidTurns_CrankError : PySem.W.kitOne K (.ref C_InvalidTurns) (.ref C_CrankError) = some true)
    (kt_NothingToUndo_CrankError : PySem.W.kitOne K (.ref C_NothingToUndo) (.ref C_CrankError) = some true)
    (kt_CrankError_Impossible : PySem.W.kitOne K (.ref C_CrankError) (.ref C_Impossible) = some false)
    (kt_Impossible_Impossible : PySem.W.kitOne K (.ref C_Impossible) (.ref C_Impossible) = some true)
    (kt_InvalidCommand_Impossible : PySem.W.kitOne K (.ref C_InvalidCommand) (.ref C_Impossible) = some false)
    (kt_InvalidCounter_Impossible : PySem.W.kitOne K (.ref C_InvalidCounter) (.ref C_Impossible) = some false)
    (kt_InvalidCranks_Impossible : PySem.W.kitOne K (.ref C_InvalidCranks) (.ref C_Impossible) = some false)
    (kt_InvalidMachine_Impossible : PySem.W.kitOne K (.ref C_InvalidMachine) (.ref C_Impossible) = some false)
    (kt_InvalidNumber_Impossible : PySem.W.kitOne K (.ref C_InvalidNumber) (.ref C_Impossible) = some false)
    (kt_InvalidPlace_Impossible : PySem.W.kitOne K (.ref C_InvalidPlace) (.ref C_Impossible) = some false)
    (kt_InvalidPlan_Impossible : PySem.W.kitOne K (.ref C_InvalidPlan) (.ref C_Impossible) = some false)
    (kt_InvalidRegister_Impossible : PySem.W.kitOne K (.ref C_InvalidRegister) (.ref C_Impossible) = some false)
    (kt_InvalidSetting_Impossible : PySem.W.kitOne K (.ref C_InvalidSetting) (.ref C_Impossible) = some false)
    (kt_InvalidSyntax_Impossible : PySem.W.kitOne K (.ref C_InvalidSyntax) (.ref C_Impossible) = some false)
    (kt_InvalidTurns_Impossible : PySem.W.kitOne K (.ref C_InvalidTurns) (.ref C_Impossible) = some false)
    (kt_NothingToUndo_Impossible : PySem.W.kitOne K (.ref C_NothingToUndo) (.ref C_Impossible) = some false)
    (kt_CrankError_InvalidCommand : PySem.W.kitOne K (.ref C_CrankError) (.ref C_InvalidCommand) = some false)
    (kt_Impossible_InvalidCommand : PySem.W.kitOne K (.ref C_Impossible) (.ref C_InvalidCommand) = some false)
    (kt_InvalidCommand_InvalidCommand : PySem.W.kitOne K (.ref C_InvalidCommand) (.ref C_InvalidCommand) = some true)
    (kt_InvalidCounter_InvalidCommand : PySem.W.kitOne K (.ref C_InvalidCounter) (.ref C_InvalidCommand) = some false)
    (kt_InvalidCranks_InvalidCommand : PySem.W.kitOne K (.ref C_InvalidCranks) (.ref C_InvalidCommand) = some false)
    (kt_InvalidMachine_InvalidCommand : PySem.W.kitOne K (.ref C_InvalidMachine) (.ref C_InvalidCommand) = some false)
    (kt_InvalidNumber_InvalidCommand : PySem.W.kitOne K (.ref C_InvalidNumber) (.ref C_InvalidCommand) = some false)
    (kt_InvalidPlace_InvalidCommand : PySem.W.kitOne K (.ref C_InvalidPlace) (.ref C_InvalidCommand) = some false)
    (kt_InvalidPlan_InvalidCommand : PySem.W.kitOne K (.ref C_InvalidPlan) (.ref C_InvalidCommand) = some false)
    (kt_InvalidRegister_InvalidCommand : PySem.W.kitOne K (.ref C_InvalidRegister) (.ref C_InvalidCommand) = some false)
    (kt_InvalidSetting_InvalidCommand : PySem.W.kitOne K (.ref C_InvalidSetting) (.ref C_InvalidCommand) = some false)
    (kt_InvalidSyntax_InvalidCommand : PySem.W.kitOne K (.ref C_InvalidSyntax) (.ref C_InvalidCommand) = some false)
    (kt_InvalidTurns_InvalidCommand : PySem.W.kitOne K (.ref C_InvalidTurns) (.ref C_InvalidCommand) = some false)
    (kt_NothingToUndo_InvalidCommand : PySem.W.kitOne K (.ref C_NothingToUndo) (.ref C_InvalidCommand) = some false)
    (kt_CrankError_InvalidCounter : PySem.W.kitOne K (.ref C_CrankError) (.ref C_InvalidCounter) = some false)
    (kt_Impossible_InvalidCounter : PySem.W.kitOne K (.ref C_Impossible) (.ref C_InvalidCounter) = some false)
    (kt_InvalidCommand_InvalidCounter : PySem.W.kitOne K (.ref C_InvalidCommand) (.ref C_InvalidCounter) = some false)
    (kt_InvalidCounter_InvalidCounter : PySem.W.kitOne K (.ref C_InvalidCounter) (.ref C_InvalidCounter) = some true)
    (kt_InvalidCranks_InvalidCounter : PySem.W.kitOne K (.ref C_InvalidCranks) (.ref C_InvalidCounter) = some false)
    (kt_InvalidMachine_InvalidCounter : PySem.W.kitOne K (.ref C_InvalidMachine) (.ref C_InvalidCounter) = some false)
    (kt_InvalidNumber_InvalidCounter : PySem.W.kitOne K (.ref C_InvalidNumber) (.ref C_InvalidCounter) = some false)
    (kt_InvalidPlace_InvalidCounter : PySem.W.kitOne K (.ref C_InvalidPlace) (.ref C_InvalidCounter) = some false)
    (kt_InvalidPlan_InvalidCounter : PySem.W.kitOne K (.ref C_InvalidPlan) (.ref C_InvalidCounter) = some false)
    (kt_InvalidRegister_InvalidCounter : PySem.W.kitOne K (.ref C_InvalidRegister) (.ref C_InvalidCounter) = some false)
    (kt_InvalidSetting_InvalidCounter : PySem.W.kitOne K (.ref C_InvalidSetting) (.ref C_InvalidCounter) = some false)
    (kt_InvalidSyntax_InvalidCounter : PySem.W.kitOne K (.ref C_InvalidSyntax) (.ref C_InvalidCounter) = some false)
    (kt_InvalidTurns_InvalidCounter : PySem.W.kitOne K (.ref C_InvalidTurns) (.ref C_InvalidCounter) = some false)
    (kt_NothingToUndo_InvalidCounter : PySem.W.kitOne K (.ref C_NothingToUndo) (.ref C_InvalidCounter) = some false)
    (kt_CrankError_InvalidCranks : PySem.W.kitOne K (.ref C_CrankError) (.ref C_InvalidCranks) = some false)
    (kt_Impossible_InvalidCranks : PySem.W.kitOne K (.ref C_Impossible) (.ref C_InvalidCranks) = some false)
    (kt_InvalidCommand_InvalidCranks : PySem.W.kitOne K (.ref C_InvalidCommand) (.ref C_InvalidCranks) = some false)
    (kt_InvalidCounter_InvalidCranks : PySem.W.kitOne K (.ref C_InvalidCounter) (.ref C_InvalidCranks) = some false)
    (kt_InvalidCranks_InvalidCranks : PySem.W.kitOne K (.ref C_InvalidCranks) (.ref C_InvalidCranks) = some true)
    (kt_InvalidMachine_InvalidCranks : PySem.W.kitOne K (.ref C_InvalidMachine) (.ref C_InvalidCranks) = some false)
    (kt_InvalidNumber_InvalidCranks : PySem.W.kitOne K (.ref C_InvalidNumber) (.ref C_InvalidCranks) = some false)
    (kt_InvalidPlace_InvalidCranks : PySem.W.kitOne K (.ref C_InvalidPlace) (.ref C_InvalidCranks) = some false)
    (kt_InvalidPlan_InvalidCranks : PySem.W.kitOne K (.ref C_InvalidPlan) (.ref C_InvalidCranks) = some false)
    (kt_InvalidRegister_InvalidCranks : PySem.W.kitOne K (.ref C_InvalidRegister) (.ref C_InvalidCranks) = some false)
    (kt_InvalidSetting_InvalidCranks : PySem.W.kitOne K (.ref C_InvalidSetting) (.ref C_InvalidCranks) = some false)
    (kt_InvalidSyntax_InvalidCranks : PySem.W.kitOne K (.ref C_InvalidSyntax) (.ref C_InvalidCranks) = some false)
    (kt_InvalidTurns_InvalidCranks : PySem.W.kitOne K (.ref C_InvalidTurns) (.ref C_InvalidCranks) = some false)
    (kt_NothingToUndo_InvalidCranks : PySem.W.kitOne K (.ref C_NothingToUndo) (.ref C_InvalidCranks) = some false)
    (kt_CrankError_InvalidMachine : PySem.W.kitOne K (.ref C_CrankError) (.ref C_InvalidMachine) = some false)
    (kt_Impossible_InvalidMachine : PySem.W.kitOne K (.ref C_Impossible) (.ref C_InvalidMachine) = some false)
    (kt_InvalidCommand_InvalidMachine : PySem.W.kitOne K (.ref C_InvalidCommand) (.ref C_InvalidMachine) = some false)
    (kt_InvalidCounter_InvalidMachine : PySem.W.kitOne K (.ref C_InvalidCounter) (.ref C_InvalidMachine) = some false)
    (kt_InvalidCranks_InvalidMachine : PySem.W.kitOne K (.ref C_InvalidCranks) (.ref C_InvalidMachine) = some false)
    (kt_InvalidMachine_InvalidMachine : PySem.W.kitOne K (.ref C_InvalidMachine) (.ref C_InvalidMachine) = some true)
    (kt_InvalidNumber_InvalidMachine : PySem.W.kitOne K (.ref C_InvalidNumber) (.ref C_InvalidMachine) = some false)
    (kt_InvalidPlace_InvalidMachine : PySem.W.kitOne K (.ref C_InvalidPlace) (.ref C_InvalidMachine) = some false)
    (kt_InvalidPlan_InvalidMachine : PySem.W.kitOne K (.ref C_InvalidPlan) (.ref C_InvalidMachine) = some false)
    (kt_InvalidRegister_InvalidMachine : PySem.W.kitOne K (.ref C_InvalidRegister) (.ref C_InvalidMachine) = some false)
    (kt_InvalidSetting_InvalidMachine : PySem.W.kitOne K (.ref C_InvalidSetting) (.ref C_InvalidMachine) = some false)
    (kt_InvalidSyntax_InvalidMachine : PySem.W.kitOne K (.ref C_InvalidSyntax) (.ref C_InvalidMachine) = some false)
    (kt_InvalidTurns_InvalidMachine : PySem.W.kitOne K (.ref C_InvalidTurns) (.ref C_InvalidMachine) = some false)
    (kt_NothingToUndo_InvalidMachine : PySem.W.kitOne K (.ref C_NothingToUndo) (.ref C_InvalidMachine) = some false)
    (kt_CrankError_InvalidNumber : PySem.W.kitOne K (.ref C_CrankError) (.ref C_InvalidNumber) = some false)
    (kt_Impossible_InvalidNumber : PySem.W.kitOne K (.ref C_Impossible) (.ref C_InvalidNumber) = some false)
    (kt_InvalidCommand_InvalidNumber : PySem.W.kitOne K (.ref C_InvalidCommand) (.ref C_InvalidNumber) = some false)
    (kt_InvalidCounter_InvalidNumber : PySem.W.kitOne K (.ref C_InvalidCounter) (.ref C_InvalidNumber) = some false)
    (kt_InvalidCranks_InvalidNumber : PySem.W.kitOne K (.ref C_InvalidCranks) (.ref C_InvalidNumber) = some false)
    (kt_InvalidMachine_InvalidNumber : PySem.W.kitOne K (.ref C_InvalidMachine) (.ref C_InvalidNumber) = some false)
    (kt_InvalidNumber_InvalidNumber : PySem.W.kitOne K (.ref C_InvalidNumber) (.ref C_InvalidNumber) = some true)
    (kt_InvalidPlace_InvalidNumber : PySem.W.kitOne K (.ref C_InvalidPlace) (.ref C_InvalidNumber) = some false)
    (kt_InvalidPlan_InvalidNumber : PySem.W.kitOne K (.ref C_InvalidPlan) (.ref C_InvalidNumber) = some false)
    (kt_InvalidRegister_InvalidNumber : PySem.W.kitOne K (.ref C_InvalidRegister) (.ref C_InvalidNumber) = some false)
    (kt_InvalidSetting_InvalidNumber : PySem.W.kitOne K (.ref C_InvalidSetting) (.ref C_InvalidNumber) = some false)
    (kt_InvalidSyntax_InvalidNumber : PySem.W.kitOne K (.ref C_InvalidSyntax) (.ref C_InvalidNumber) = some false)
    (kt_InvalidTurns_InvalidNumber : PySem.W.kitOne K (.ref C_InvalidTurns) (.ref C_InvalidNumber) = some false)
    (kt_NothingToUndo_InvalidNumber : PySem.W.kitOne K (.ref C_NothingToUndo) (.ref C_InvalidNumber) = some false)
    (kt_CrankError_InvalidPlace : PySem.W.kitOne K (.ref C_CrankError) (.ref C_InvalidPlace) = some false)
    (kt_Impossible_InvalidPlace : PySem.W.kitOne K (.ref C_Impossible) (.ref C_InvalidPlace) = some false)
    (kt_InvalidCommand_InvalidPlace : PySem.W.kitOne K (.ref C_InvalidCommand) (.ref C_InvalidPlace) = some false)
    (kt_InvalidCounter_InvalidPlace : PySem.W.kitOne K (.ref C_InvalidCounter) (.ref C_InvalidPlace) = some false)
    (kt_InvalidCranks_InvalidPlace : PySem.W.kitOne K (.ref C_InvalidCranks) (.ref C_InvalidPlace) = some false)
    (kt_InvalidMachine_InvalidPlace : PySem.W.kitOne K (.ref C_InvalidMachine) (.ref C_InvalidPlace) = some false)
    (kt_InvalidNumber_InvalidPlace : PySem.W.kitOne K (.ref C_InvalidNumber) (.ref C_InvalidPlace) = some false)
    (kt_InvalidPlace_InvalidPlace : PySem.W.kitOne K (.ref C_InvalidPlace) (.ref C_InvalidPlace) = some true)
    (kt_InvalidPlan_InvalidPlace : PySem.W.kitOne K (.ref C_InvalidPlan) (.ref C_InvalidPlace) = some false)
    (kt_InvalidRegister_InvalidPlace : PySem.W.kitOne K (.ref C_InvalidRegister) (.ref C_InvalidPlace) = some false)
    (kt_InvalidSetting_InvalidPlace : PySem.W.kitOne K (.ref C_InvalidSetting) (.ref C_InvalidPlace) = some false)
    (kt_InvalidSyntax_InvalidPlace : PySem.W.kitOne K (.ref C_InvalidSyntax) (.ref C_InvalidPlace) = some false)
    (kt_InvalidTurns_InvalidPlace : PySem.W.kitOne K (.ref C_InvalidTurns) (.ref C_InvalidPlace) = some false)
    (kt_NothingToUndo_InvalidPlace : PySem.W.kitOne K (.ref C_NothingToUndo) (.ref C_InvalidPlace) = some false)
    (kt_CrankError_InvalidPlan : PySem.W.kitOne K (.ref C_CrankError) (.ref C_InvalidPlan) = some false)
    (kt_Impossible_InvalidPlan : PySem.W.kitOne K (.ref C_Impossible) (.ref C_InvalidPlan) = some false)
    (kt_InvalidCommand_InvalidPlan : PySem.W.kitOne K (.ref C_InvalidCommand) (.ref C_InvalidPlan) = some false)
    (kt_InvalidCounter_InvalidPlan : PySem.W.kitOne K (.ref C_InvalidCounter) (.ref C_InvalidPlan) = some false)
    (kt_InvalidCranks_InvalidPlan : PySem.W.kitOne K (.ref C_InvalidCranks) (.ref C_InvalidPlan) = some false)
    (kt_InvalidMachine_InvalidPlan : PySem.W.kitOne K (.ref C_InvalidMachine) (.ref C_InvalidPlan) = some false)
    (kt_InvalidNumber_InvalidPlan : PySem.W.kitOne K (.ref C_InvalidNumber) (.ref C_InvalidPlan) = some false)
    (kt_InvalidPlace_InvalidPlan : PySem.W.kitOne K (.ref C_InvalidPlace) (.ref C_InvalidPlan) = some false)
    (kt_InvalidPlan_InvalidPlan : PySem.W.kitOne K (.ref C_InvalidPlan) (.ref C_InvalidPlan) = some true)
    (kt_InvalidRegister_InvalidPlan : PySem.W.kitOne K (.ref C_InvalidRegister) (.ref C_InvalidPlan) = some false)
    (kt_InvalidSetting_InvalidPlan : PySem.W.kitOne K (.ref C_InvalidSetting) (.ref C_InvalidPlan) = some false)
    (kt_InvalidSyntax_InvalidPlan : PySem.W.kitOne K (.ref C_InvalidSyntax) (.ref C_InvalidPlan) = some false)
    (kt_InvalidTurns_InvalidPlan : PySem.W.kitOne K (.ref C_InvalidTurns) (.ref C_InvalidPlan) = some false)
    (kt_NothingToUndo_InvalidPlan : PySem.W.kitOne K (.ref C_NothingToUndo) (.ref C_InvalidPlan) = some false)
    (kt_CrankError_InvalidRegister : PySem.W.kitOne K (.ref C_CrankError) (.ref C_InvalidRegister) = some false)
    (kt_Impossible_InvalidRegister : PySem.W.kitOne K (.ref C_Impossible) (.ref C_InvalidRegister) = some false)
    (kt_InvalidCommand_InvalidRegister : PySem.W.kitOne K (.ref C_InvalidCommand) (.ref C_InvalidRegister) = some false)
    (kt_InvalidCounter_InvalidRegister : PySem.W.kitOne K (.ref C_InvalidCounter) (.ref C_InvalidRegister) = some false)
    (kt_InvalidCranks_InvalidRegister : PySem.W.kitOne K (.ref C_InvalidCranks) (.ref C_InvalidRegister) = some false)
    (kt_InvalidMachine_InvalidRegister : PySem.W.kitOne K (.ref C_InvalidMachine) (.ref C_InvalidRegister) = some false)
    (kt_InvalidNumber_InvalidRegister : PySem.W.kitOne K (.ref C_InvalidNumber) (.ref C_InvalidRegister) = some false)
    (kt_InvalidPlace_InvalidRegister : PySem.W.kitOne K (.ref C_InvalidPlace) (.ref C_InvalidRegister) = some false)
    (kt_InvalidPlan_InvalidRegister : PySem.W.kitOne K (.ref C_InvalidPlan) (.ref C_InvalidRegister) = some false)
    (kt_InvalidRegister_InvalidRegister : PySem.W.kitOne K (.ref C_InvalidRegister) (.ref C_InvalidRegister) = some true)
    (kt_InvalidSetting_InvalidRegister : PySem.W.kitOne K (.ref C_InvalidSetting) (.ref C_InvalidRegister) = some false)
    (kt_InvalidSyntax_InvalidRegister : PySem.W.kitOne K (.ref C_InvalidSyntax) (.ref C_InvalidRegister) = some false)
    (kt_InvalidTurns_InvalidRegister : PySem.W.kitOne K (.ref C_InvalidTurns) (.ref C_InvalidRegister) = some false)
    (kt_NothingToUndo_InvalidRegister : PySem.W.kitOne K (.ref C_NothingToUndo) (.ref C_InvalidRegister) = some false)
    (kt_CrankError_InvalidSetting : PySem.W.kitOne K (.ref C_CrankError) (.ref C_InvalidSetting) = some false)
    (kt_Impossible_InvalidSetting : PySem.W.kitOne K (.ref C_Impossible) (.ref C_InvalidSetting) = some false)
    (kt_InvalidCommand_InvalidSetting : PySem.W.kitOne K (.ref C_InvalidCommand) (.ref C_InvalidSetting) = some false)
    (kt_InvalidCounter_InvalidSetting : PySem.W.kitOne K (.ref C_InvalidCounter) (.ref C_InvalidSetting) = some false)
    (kt_InvalidCranks_InvalidSetting : PySem.W.kitOne K (.ref C_InvalidCranks) (.ref C_InvalidSetting) = some false)
    (kt_InvalidMachine_InvalidSetting : PySem.W.kitOne K (.ref C_InvalidMachine) (.ref C_InvalidSetting) = some false)
    (kt_InvalidNumber_InvalidSetting : PySem.W.kitOne K (.ref C_InvalidNumber) (.ref C_InvalidSetting) = some false)
    (kt_InvalidPlace_InvalidSetting : PySem.W.kitOne K (.ref C_InvalidPlace) (.ref C_InvalidSetting) = some false)
    (kt_InvalidPlan_InvalidSetting : PySem.W.kitOne K (.ref C_InvalidPlan) (.ref C_InvalidSetting) = some false)
    (kt_InvalidRegister_InvalidSetting : PySem.W.kitOne K (.ref C_InvalidRegister) (.ref C_InvalidSetting) = some false)
    (kt_InvalidSetting_InvalidSetting : PySem.W.kitOne K (.ref C_InvalidSetting) (.ref C_InvalidSetting) = some true)
    (kt_InvalidSyntax_InvalidSetting : PySem.W.kitOne K (.ref C_InvalidSyntax) (.ref C_InvalidSetting) = some false)
    (kt_InvalidTurns_InvalidSetting : PySem.W.kitOne K (.ref C_InvalidTurns) (.ref C_InvalidSetting) = some false)
    (kt_NothingToUndo_InvalidSetting : PySem.W.kitOne K (.ref C_NothingToUndo) (.ref C_InvalidSetting) = some false)
    (kt_CrankError_InvalidSyntax : PySem.W.kitOne K (.ref C_CrankError) (.ref C_InvalidSyntax) = some false)
    (kt_Impossible_InvalidSyntax : PySem.W.kitOne K (.ref C_Impossible) (.ref C_InvalidSyntax) = some false)
    (kt_InvalidCommand_InvalidSyntax : PySem.W.kitOne K (.ref C_InvalidCommand) (.ref C_InvalidSyntax) = some false)
    (kt_InvalidCounter_InvalidSyntax : PySem.W.kitOne K (.ref C_InvalidCounter) (.ref C_InvalidSyntax) = some false)
    (kt_InvalidCranks_InvalidSyntax : PySem.W.kitOne K (.ref C_InvalidCranks) (.ref C_InvalidSyntax) = some false)
    (kt_InvalidMachine_InvalidSyntax : PySem.W.kitOne K (.ref C_InvalidMachine) (.ref C_InvalidSyntax) = some false)
    (kt_InvalidNumber_InvalidSyntax : PySem.W.kitOne K (.ref C_InvalidNumber) (.ref C_InvalidSyntax) = some false)
    (kt_InvalidPlace_InvalidSyntax : PySem.W.kitOne K (.ref C_InvalidPlace) (.ref C_InvalidSyntax) = some false)
    (kt_InvalidPlan_InvalidSyntax : PySem.W.kitOne K (.ref C_InvalidPlan) (.ref C_InvalidSyntax) = some false)
    (kt_InvalidRegister_InvalidSyntax : PySem.W.kitOne K (.ref C_InvalidRegister) (.ref C_InvalidSyntax) = some false)
    (kt_InvalidSetting_InvalidSyntax : PySem.W.kitOne K (.ref C_InvalidSetting) (.ref C_InvalidSyntax) = some false)
    (kt_InvalidSyntax_InvalidSyntax : PySem.W.kitOne K (.ref C_InvalidSyntax) (.ref C_InvalidSyntax) = some true)
    (kt_InvalidTurns_InvalidSyntax : PySem.W.kitOne K (.ref C_InvalidTurns) (.ref C_InvalidSyntax) = some false)
    (kt_NothingToUndo_InvalidSyntax : PySem.W.kitOne K (.ref C_NothingToUndo) (.ref C_InvalidSyntax) = some false)
    (kt_CrankError_InvalidTurns : PySem.W.kitOne K (.ref C_CrankError) (.ref C_InvalidTurns) = some false)
    (kt_Impossible_InvalidTurns : PySem.W.kitOne K (.ref C_Impossible) (.ref C_InvalidTurns) = some false)
    (kt_InvalidCommand_InvalidTurns : PySem.W.kitOne K (.ref C_InvalidCommand) (.ref C_InvalidTurns) = some false)
    (kt_InvalidCounter_InvalidTurns : PySem.W.kitOne K (.ref C_InvalidCounter) (.ref C_InvalidTurns) = some false)
    (kt_InvalidCranks_InvalidTurns : PySem.W.kitOne K (.ref C_InvalidCranks) (.ref C_InvalidTurns) = some false)
    (kt_InvalidMachine_InvalidTurns : PySem.W.kitOne K (.ref C_InvalidMachine) (.ref C_InvalidTurns) = some false)
    (kt_InvalidNumber_InvalidTurns : PySem.W.kitOne K (.ref C_InvalidNumber) (.ref C_InvalidTurns) = some false)
    (kt_InvalidPlace_InvalidTurns : PySem.W.kitOne K (.ref C_InvalidPlace) (.ref C_InvalidTurns) = some false)
    (kt_InvalidPlan_InvalidTurns : PySem.W.kitOne K (.ref C_InvalidPlan) (.ref C_InvalidTurns) = some false)
    (kt_InvalidRegister_InvalidTurns : PySem.W.kitOne K (.ref C_InvalidRegister) (.ref C_InvalidTurns) = some false)
    (kt_InvalidSetting_InvalidTurns : PySem.W.kitOne K (.ref C_InvalidSetting) (.ref C_InvalidTurns) = some false)
    (kt_InvalidSyntax_InvalidTurns : PySem.W.kitOne K (.ref C_InvalidSyntax) (.ref C_InvalidTurns) = some false)
    (kt_InvalidTurns_InvalidTurns : PySem.W.kitOne K (.ref C_InvalidTurns) (.ref C_InvalidTurns) = some true)
    (kt_NothingToUndo_InvalidTurns : PySem.W.kitOne K (.ref C_NothingToUndo) (.ref C_InvalidTurns) = some false)
    (kt_CrankError_NothingToUndo : PySem.W.kitOne K (.ref C_CrankError) (.ref C_NothingToUndo) = some false)
    (kt_Impossible_NothingToUndo : PySem.W.kitOne K (.ref C_Impossible) (.ref C_NothingToUndo) = some false)
    (kt_InvalidCommand_NothingToUndo : PySem.W.kitOne K (.ref C_InvalidCommand) (.ref C_NothingToUndo) = some false)
    (kt_InvalidCounter_NothingToUndo : PySem.W.kitOne K (.ref C_InvalidCounter) (.ref C_NothingToUndo) = some false)
    (kt_InvalidCranks_NothingToUndo : PySem.W.kitOne K (.ref C_InvalidCranks) (.ref C_NothingToUndo) = some false)
    (kt_InvalidMachine_NothingToUndo : PySem.W.kitOne K (.ref C_InvalidMachine) (.ref C_NothingToUndo) = some false)
    (kt_InvalidNumber_NothingToUndo : PySem.W.kitOne K (.ref C_InvalidNumber) (.ref C_NothingToUndo) = some false)
    (kt_InvalidPlace_NothingToUndo : PySem.W.kitOne K (.ref C_InvalidPlace) (.ref C_NothingToUndo) = some false)
    (kt_InvalidPlan_NothingToUndo : PySem.W.kitOne K (.ref C_InvalidPlan) (.ref C_NothingToUndo) = some false)
    (kt_InvalidRegister_NothingToUndo : PySem.W.kitOne K (.ref C_InvalidRegister) (.ref C_NothingToUndo) = some false)
    (kt_InvalidSetting_NothingToUndo : PySem.W.kitOne K (.ref C_InvalidSetting) (.ref C_NothingToUndo) = some false)
    (kt_InvalidSyntax_NothingToUndo : PySem.W.kitOne K (.ref C_InvalidSyntax) (.ref C_NothingToUndo) = some false)
    (kt_InvalidTurns_NothingToUndo : PySem.W.kitOne K (.ref C_InvalidTurns) (.ref C_NothingToUndo) = some false)
    (kt_NothingToUndo_NothingToUndo : PySem.W.kitOne K (.ref C_NothingToUndo) (.ref C_NothingToUndo) = some true)
    (kt_CrankError_ValueError : PySem.W.kitOne K (.ref C_CrankError) (.type "ValueError") = some true)
    (kt_Impossible_ValueError : PySem.W.kitOne K (.ref C_Impossible) (.type "ValueError") = some true)
    (kt_InvalidCommand_ValueError : PySem.W.kitOne K (.ref C_InvalidCommand) (.type "ValueError") = some true)
    (kt_InvalidCounter_ValueError : PySem.W.kitOne K (.ref C_InvalidCounter) (.type "ValueError") = some true)
    (kt_InvalidCranks_ValueError : PySem.W.kitOne K (.ref C_InvalidCranks) (.type "ValueError") = some true)
    (kt_InvalidMachine_ValueError : PySem.W.kitOne K (.ref C_InvalidMachine) (.type "ValueError") = some true)
    (kt_InvalidNumber_ValueError : PySem.W.kitOne K (.ref C_InvalidNumber) (.type "ValueError") = some true)
    (kt_InvalidPlace_ValueError : PySem.W.kitOne K (.ref C_InvalidPlace) (.type "ValueError") = some true)
    (kt_InvalidPlan_ValueError : PySem.W.kitOne K (.ref C_InvalidPlan) (.type "ValueError") = some true)
    (kt_InvalidRegister_ValueError : PySem.W.kitOne K (.ref C_InvalidRegister) (.type "ValueError") = some true)
    (kt_InvalidSetting_ValueError : PySem.W.kitOne K (.ref C_InvalidSetting) (.type "ValueError") = some true)
    (kt_InvalidSyntax_ValueError : PySem.W.kitOne K (.ref C_InvalidSyntax) (.type "ValueError") = some true)
    (kt_InvalidTurns_ValueError : PySem.W.kitOne K (.ref C_InvalidTurns) (.type "ValueError") = some true)
    (kt_NothingToUndo_ValueError : PySem.W.kitOne K (.ref C_NothingToUndo) (.type "ValueError") = some true)
    (z_ValueError : PySem.W.nsIn K mainGlobals "ValueError" = some none)
    (z_abs : PySem.W.nsIn K mainGlobals "abs" = some none)
    (z_enumerate : PySem.W.nsIn K mainGlobals "enumerate" = some none)
    (z_int : PySem.W.nsIn K mainGlobals "int" = some none)
    (z_isinstance : PySem.W.nsIn K mainGlobals "isinstance" = some none)
    (z_len : PySem.W.nsIn K mainGlobals "len" = some none)
    (z_max : PySem.W.nsIn K mainGlobals "max" = some none)
    (z_min : PySem.W.nsIn K mainGlobals "min" = some none)
    (z_range : PySem.W.nsIn K mainGlobals "range" = some none)
    (z_repr : PySem.W.nsIn K mainGlobals "repr" = some none) :
    ∃ (mm : Memo) (_ : Triv mm) (fd : FuncData), (∀ (s : Shared) (v : Value), BindsTo s fd ⟨[v], []⟩ [("_law_script", v)]) ∧ ∀ base : Heap, K.In base → base.Ns mainGlobals mg → FnG l.prog w K mg base CX0 4 fa fd ["_law_script"] (@spD mm K 1 m_law) := by
  have e := hfa.symm.trans (PySem.W.mg_of X G a5)
  cases e
  letI mm : Memo := errMemo 0 K mg
  haveI : Triv mm := inferInstanceAs (Triv (errMemo 0 K mg))
  haveI : Still mm := inferInstanceAs (Still (errMemo 0 K mg))
  let T : TX K mg := {
    e_tank := ⟨_, _, fun_mk (st := s_tank) l0 c0 k0, PySem.W.mg_of X G a0, k0, (fun_mk (st := s_tank) l0 c0 k0).binds fun _ _ _ _ _ _ us hl => match us, hl with | [_, _], _ => rfl⟩
    e_made := ⟨_, _, fun_mk (st := s_made) l1 c1 k1, PySem.W.mg_of X G a1, k1, (fun_mk (st := s_made) l1 c1 k1).binds fun _ _ _ _ _ _ us hl => match us, hl with | [_, _], _ => rfl⟩
    e_tap := ⟨_, _, fun_mk (st := s_tap) l2 c2 k2, PySem.W.mg_of X G a2, k2, (fun_mk (st := s_tap) l2 c2 k2).binds fun _ _ _ _ _ _ us hl => match us, hl with | [_, _], _ => rfl⟩
    e_kinds := ⟨_, _, fun_mk (st := s_kinds) l3 c3 k3, PySem.W.mg_of X G a3, k3, (fun_mk (st := s_kinds) l3 c3 k3).binds fun _ _ _ _ _ _ us hl => match us, hl with | [_], _ => rfl⟩
    e_fields_right := ⟨_, _, fun_mk (st := s_fields_right) l4 c4 k4, PySem.W.mg_of X G a4, k4, (fun_mk (st := s_fields_right) l4 c4 k4).binds fun _ _ _ _ _ _ us hl => match us, hl with | [_, _], _ => rfl⟩
    e_law := ⟨_, _, fun_mk (st := s_law) l5 c5 k5, PySem.W.mg_of X G a5, k5, (fun_mk (st := s_law) l5 c5 k5).binds fun _ _ _ _ _ _ us hl => match us, hl with | [_], _ => rfl⟩
    ee := isE_err 0 K mg
    xg := ⟨xgt, xtk⟩
    xb := ⟨C_CrankError, .type "type", PySem.W.mg_of X G xa_CrankError, xb1, xb2, xb3⟩
    x_CrankError := ⟨C_CrankError, PySem.W.mg_of X G xa_CrankError, q_CrankError, kp_CrankError, ty_CrankError, ⟨ga_CrankError, gg_CrankError, ex_CrankError, hd_CrankError, cl_CrankError, mo_CrankError⟩⟩
    x_Impossible := ⟨C_Impossible, PySem.W.mg_of X G xa_Impossible, q_Impossible, kp_Impossible, ty_Impossible, ⟨ga_Impossible, gg_Impossible, ex_Impossible, hd_Impossible, cl_Impossible, mo_Impossible⟩⟩
    x_InvalidCommand := ⟨C_InvalidCommand, PySem.W.mg_of X G xa_InvalidCommand, q_InvalidCommand, kp_InvalidCommand, ty_InvalidCommand, ⟨ga_InvalidCommand, gg_InvalidCommand, ex_InvalidCommand, hd_InvalidCommand, cl_InvalidCommand, mo_InvalidCommand⟩⟩
    x_InvalidCounter := { C := C_InvalidCounter, mg := PySem.W.mg_of X G xa_InvalidCounter, xc := ⟨ga_InvalidCounter, gg_InvalidCounter, ex_InvalidCounter, hd_InvalidCounter, cl_InvalidCounter, mo_InvalidCounter⟩, oex := ⟨⟨_, _, _, _, _, _, _, _, _, _, _, _, _, _, _, lk_InvalidCounter, rfl⟩, sa_InvalidCounter, ex_InvalidCounter, ty_InvalidCounter, kp_InvalidCounter⟩, fI := fI_InvalidCounter, fd := _, iC := ii_InvalidCounter, tI := it_InvalidCounter, fn := (fun_mk (st := s_i_InvalidCounter) il_InvalidCounter iq_InvalidCounter ik_InvalidCounter), bd := (fun_mk (st := s_i_InvalidCounter) il_InvalidCounter iq_InvalidCounter ik_InvalidCounter).binds fun _ _ _ _ _ _ us hl => match us, hl with | [_, _], _ => rfl, no := no_InvalidCounter }
    x_InvalidCranks := { C := C_InvalidCranks, mg := PySem.W.mg_of X G xa_InvalidCranks, xc := ⟨ga_InvalidCranks, gg_InvalidCranks, ex_InvalidCranks, hd_InvalidCranks, cl_InvalidCranks, mo_InvalidCranks⟩, oex := ⟨⟨_, _, _, _, _, _, _, _, _, _, _, _, _, _, _, lk_InvalidCranks, rfl⟩, sa_InvalidCranks, ex_InvalidCranks, ty_InvalidCranks, kp_InvalidCranks⟩, fI := fI_InvalidCranks, fd := _, iC := ii_InvalidCranks, tI := it_InvalidCranks, fn := (fun_mk (st := s_i_InvalidCranks) il_InvalidCranks iq_InvalidCranks ik_InvalidCranks), bd := (fun_mk (st := s_i_InvalidCranks) il_InvalidCranks iq_InvalidCranks ik_InvalidCranks).binds fun _ _ _ _ _ _ us hl => match us, hl with | [_, _], _ => rfl, no := no_InvalidCranks }
    x_InvalidMachine := { C := C_InvalidMachine, mg := PySem.W.mg_of X G xa_InvalidMachine, xc := ⟨ga_InvalidMachine, gg_InvalidMachine, ex_InvalidMachine, hd_InvalidMachine, cl_InvalidMachine, mo_InvalidMachine⟩, oex := ⟨⟨_, _, _, _, _, _, _, _, _, _, _, _, _, _, _, lk_InvalidMachine, rfl⟩, sa_InvalidMachine, ex_InvalidMachine, ty_InvalidMachine, kp_InvalidMachine⟩, fI := fI_InvalidMachine, fd := _, iC := ii_InvalidMachine, tI := it_InvalidMachine, fn := (fun_mk (st := s_i_InvalidMachine) il_InvalidMachine iq_InvalidMachine ik_InvalidMachine), bd := (fun_mk (st := s_i_InvalidMachine) il_InvalidMachine iq_InvalidMachine ik_InvalidMachine).binds fun _ _ _ _ _ _ us hl => match us, hl with | [_, _], _ => rfl, no := no_InvalidMachine }
    x_InvalidNumber := ⟨C_InvalidNumber, PySem.W.mg_of X G xa_InvalidNumber, q_InvalidNumber, kp_InvalidNumber, ty_InvalidNumber, ⟨ga_InvalidNumber, gg_InvalidNumber, ex_InvalidNumber, hd_InvalidNumber, cl_InvalidNumber, mo_InvalidNumber⟩⟩
    x_InvalidPlace := ⟨C_InvalidPlace, PySem.W.mg_of X G xa_InvalidPlace, q_InvalidPlace, kp_InvalidPlace, ty_InvalidPlace, ⟨ga_InvalidPlace, gg_InvalidPlace, ex_InvalidPlace, hd_InvalidPlace, cl_InvalidPlace, mo_InvalidPlace⟩⟩
    x_InvalidPlan := { C := C_InvalidPlan, mg := PySem.W.mg_of X G xa_InvalidPlan, xc := ⟨ga_InvalidPlan, gg_InvalidPlan, ex_InvalidPlan, hd_InvalidPlan, cl_InvalidPlan, mo_InvalidPlan⟩, oex := ⟨⟨_, _, _, _, _, _, _, _, _, _, _, _, _, _, _, lk_InvalidPlan, rfl⟩, sa_InvalidPlan, ex_InvalidPlan, ty_InvalidPlan, kp_InvalidPlan⟩, fI := fI_InvalidPlan, fd := _, iC := ii_InvalidPlan, tI := it_InvalidPlan, fn := (fun_mk (st := s_i_InvalidPlan) il_InvalidPlan iq_InvalidPlan ik_InvalidPlan), bd := (fun_mk (st := s_i_InvalidPlan) il_InvalidPlan iq_InvalidPlan ik_InvalidPlan).binds fun _ _ _ _ _ _ us hl => match us, hl with | [_, _], _ => rfl, no := no_InvalidPlan }
    x_InvalidRegister := ⟨C_InvalidRegister, PySem.W.mg_of X G xa_InvalidRegister, q_InvalidRegister, kp_InvalidRegister, ty_InvalidRegister, ⟨ga_InvalidRegister, gg_InvalidRegister, ex_InvalidRegister, hd_InvalidRegister, cl_InvalidRegister, mo_InvalidRegister⟩⟩
    x_InvalidSetting := ⟨C_InvalidSetting, PySem.W.mg_of X G xa_InvalidSetting, q_InvalidSetting, kp_InvalidSetting, ty_InvalidSetting, ⟨ga_InvalidSetting, gg_InvalidSetting, ex_InvalidSetting, hd_InvalidSetting, cl_InvalidSetting, mo_InvalidSetting⟩⟩
    x_InvalidSyntax := { C := C_InvalidSyntax, mg := PySem.W.mg_of X G xa_InvalidSyntax, xc := ⟨ga_InvalidSyntax, gg_InvalidSyntax, ex_InvalidSyntax, hd_InvalidSyntax, cl_InvalidSyntax, mo_InvalidSyntax⟩, oex := ⟨⟨_, _, _, _, _, _, _, _, _, _, _, _, _, _, _, lk_InvalidSyntax, rfl⟩, sa_InvalidSyntax, ex_InvalidSyntax, ty_InvalidSyntax, kp_InvalidSyntax⟩, fI := fI_InvalidSyntax, fd := _, iC := ii_InvalidSyntax, tI := it_InvalidSyntax, fn := (fun_mk (st := s_i_InvalidSyntax) il_InvalidSyntax iq_InvalidSyntax ik_InvalidSyntax), bd := (fun_mk (st := s_i_InvalidSyntax) il_InvalidSyntax iq_InvalidSyntax ik_InvalidSyntax).binds fun _ _ _ _ _ _ us hl => match us, hl with | [_, _], _ => rfl, no := no_InvalidSyntax }
    x_InvalidTurns := ⟨C_InvalidTurns, PySem.W.mg_of X G xa_InvalidTurns, q_InvalidTurns, kp_InvalidTurns, ty_InvalidTurns, ⟨ga_InvalidTurns, gg_InvalidTurns, ex_InvalidTurns, hd_InvalidTurns, cl_InvalidTurns, mo_InvalidTurns⟩⟩
    x_NothingToUndo := ⟨C_NothingToUndo, PySem.W.mg_of X G xa_NothingToUndo, q_NothingToUndo, kp_NothingToUndo, ty_NothingToUndo, ⟨ga_NothingToUndo, gg_NothingToUndo, ex_NothingToUndo, hd_NothingToUndo, cl_NothingToUndo, mo_NothingToUndo⟩⟩
    xc := (ns_cons (PySem.W.mg_of X G xa_CrankError) ⟨ga_CrankError, gg_CrankError, ex_CrankError, hd_CrankError, cl_CrankError, mo_CrankError⟩ (ns_cons (PySem.W.mg_of X G xa_Impossible) ⟨ga_Impossible, gg_Impossible, ex_Impossible, hd_Impossible, cl_Impossible, mo_Impossible⟩ (ns_cons (PySem.W.mg_of X G xa_InvalidCommand) ⟨ga_InvalidCommand, gg_InvalidCommand, ex_InvalidCommand, hd_InvalidCommand, cl_InvalidCommand, mo_InvalidCommand⟩ (ns_cons (PySem.W.mg_of X G xa_InvalidCounter) ⟨ga_InvalidCounter, gg_InvalidCounter, ex_InvalidCounter, hd_InvalidCounter, cl_InvalidCounter, mo_InvalidCounter⟩ (ns_cons (PySem.W.mg_of X G xa_InvalidCranks) ⟨ga_InvalidCranks, gg_InvalidCranks, ex_InvalidCranks, hd_InvalidCranks, cl_InvalidCranks, mo_InvalidCranks⟩ (ns_cons (PySem.W.mg_of X G xa_InvalidMachine) ⟨ga_InvalidMachine, gg_InvalidMachine, ex_InvalidMachine, hd_InvalidMachine, cl_InvalidMachine, mo_InvalidMachine⟩ (ns_cons (PySem.W.mg_of X G xa_InvalidNumber) ⟨ga_InvalidNumber, gg_InvalidNumber, ex_InvalidNumber, hd_InvalidNumber, cl_InvalidNumber, mo_InvalidNumber⟩ (ns_cons (PySem.W.mg_of X G xa_InvalidPlace) ⟨ga_InvalidPlace, gg_InvalidPlace, ex_InvalidPlace, hd_InvalidPlace, cl_InvalidPlace, mo_InvalidPlace⟩ (ns_cons (PySem.W.mg_of X G xa_InvalidPlan) ⟨ga_InvalidPlan, gg_InvalidPlan, ex_InvalidPlan, hd_InvalidPlan, cl_InvalidPlan, mo_InvalidPlan⟩ (ns_cons (PySem.W.mg_of X G xa_InvalidRegister) ⟨ga_InvalidRegister, gg_InvalidRegister, ex_InvalidRegister, hd_InvalidRegister, cl_InvalidRegister, mo_InvalidRegister⟩ (ns_cons (PySem.W.mg_of X G xa_InvalidSetting) ⟨ga_InvalidSetting, gg_InvalidSetting, ex_InvalidSetting, hd_InvalidSetting, cl_InvalidSetting, mo_InvalidSetting⟩ (ns_cons (PySem.W.mg_of X G xa_InvalidSyntax) ⟨ga_InvalidSyntax, gg_InvalidSyntax, ex_InvalidSyntax, hd_InvalidSyntax, cl_InvalidSyntax, mo_InvalidSyntax⟩ (ns_cons (PySem.W.mg_of X G xa_InvalidTurns) ⟨ga_InvalidTurns, gg_InvalidTurns, ex_InvalidTurns, hd_InvalidTurns, cl_InvalidTurns, mo_InvalidTurns⟩ (ns_cons (PySem.W.mg_of X G xa_NothingToUndo) ⟨ga_NothingToUndo, gg_NothingToUndo, ex_NothingToUndo, hd_NothingToUndo, cl_NothingToUndo, mo_NothingToUndo⟩ ns_nil))))))))))))))
    cat := (ns_cons (PySem.W.mg_of X G xa_CrankError) (PySem.W.exm_ref ex_0 hd_0 ty_0 em_CrankError) (ns_cons (PySem.W.mg_of X G xa_Impossible) (PySem.W.exm_ref ex_0 hd_0 ty_0 em_Impossible) (ns_cons (PySem.W.mg_of X G xa_InvalidCommand) (PySem.W.exm_ref ex_0 hd_0 ty_0 em_InvalidCommand) (ns_cons (PySem.W.mg_of X G xa_InvalidCounter) (PySem.W.exm_ref ex_0 hd_0 ty_0 em_InvalidCounter) (ns_cons (PySem.W.mg_of X G xa_InvalidCranks) (PySem.W.exm_ref ex_0 hd_0 ty_0 em_InvalidCranks) (ns_cons (PySem.W.mg_of X G xa_InvalidMachine) (PySem.W.exm_ref ex_0 hd_0 ty_0 em_InvalidMachine) (ns_cons (PySem.W.mg_of X G xa_InvalidNumber) (PySem.W.exm_ref ex_0 hd_0 ty_0 em_InvalidNumber) (ns_cons (PySem.W.mg_of X G xa_InvalidPlace) (PySem.W.exm_ref ex_0 hd_0 ty_0 em_InvalidPlace) (ns_cons (PySem.W.mg_of X G xa_InvalidPlan) (PySem.W.exm_ref ex_0 hd_0 ty_0 em_InvalidPlan) (ns_cons (PySem.W.mg_of X G xa_InvalidRegister) (PySem.W.exm_ref ex_0 hd_0 ty_0 em_InvalidRegister) (ns_cons (PySem.W.mg_of X G xa_InvalidSetting) (PySem.W.exm_ref ex_0 hd_0 ty_0 em_InvalidSetting) (ns_cons (PySem.W.mg_of X G xa_InvalidSyntax) (PySem.W.exm_ref ex_0 hd_0 ty_0 em_InvalidSyntax) (ns_cons (PySem.W.mg_of X G xa_InvalidTurns) (PySem.W.exm_ref ex_0 hd_0 ty_0 em_InvalidTurns) (ns_cons (PySem.W.mg_of X G xa_NothingToUndo) (PySem.W.exm_ref ex_0 hd_0 ty_0 em_NothingToUndo) ns_nil))))))))))))))
    k_InvalidSetting := (ns_cons (PySem.W.mg_of X G xa_CrankError) (kt_CrankError_InvalidSetting.trans (by decide +kernel)) (ns_cons (PySem.W.mg_of X G xa_Impossible) (kt_Impossible_InvalidSetting.trans (by decide +kernel)) (ns_cons (PySem.W.mg_of X G xa_InvalidCommand) (kt_InvalidCommand_InvalidSetting.trans (by decide +kernel)) (ns_cons (PySem.W.mg_of X G xa_InvalidCounter) (kt_InvalidCounter_InvalidSetting.trans (by decide +kernel)) (ns_cons (PySem.W.mg_of X G xa_InvalidCranks) (kt_InvalidCranks_InvalidSetting.trans (by decide +kernel)) (ns_cons (PySem.W.mg_of X G xa_InvalidMachine) (kt_InvalidMachine_InvalidSetting.trans (by decide +kernel)) (ns_cons (PySem.W.mg_of X G xa_InvalidNumber) (kt_InvalidNumber_InvalidSetting.trans (by decide +kernel)) (ns_cons (PySem.W.mg_of X G xa_InvalidPlace) (kt_InvalidPlace_InvalidSetting.trans (by decide +kernel)) (ns_cons (PySem.W.mg_of X G xa_InvalidPlan) (kt_InvalidPlan_InvalidSetting.trans (by decide +kernel)) (ns_cons (PySem.W.mg_of X G xa_InvalidRegister) (kt_InvalidRegister_InvalidSetting.trans (by decide +kernel)) (ns_cons (PySem.W.mg_of X G xa_InvalidSetting) (kt_InvalidSetting_InvalidSetting.trans (by decide +kernel)) (ns_cons (PySem.W.mg_of X G xa_InvalidSyntax) (kt_InvalidSyntax_InvalidSetting.trans (by decide +kernel)) (ns_cons (PySem.W.mg_of X G xa_InvalidTurns) (kt_InvalidTurns_InvalidSetting.trans (by decide +kernel)) (ns_cons (PySem.W.mg_of X G xa_NothingToUndo) (kt_NothingToUndo_InvalidSetting.trans (by decide +kernel)) ns_nil))))))))))))))
    k_InvalidRegister := (ns_cons (PySem.W.mg_of X G xa_CrankError) (kt_CrankError_InvalidRegister.trans (by decide +kernel)) (ns_cons (PySem.W.mg_of X G xa_Impossible) (kt_Impossible_InvalidRegister.trans (by decide +kernel)) (ns_cons (PySem.W.mg_of X G xa_InvalidCommand) (kt_InvalidCommand_InvalidRegister.trans (by decide +kernel)) (ns_cons (PySem.W.mg_of X G xa_InvalidCounter) (kt_InvalidCounter_InvalidRegister.trans (by decide +kernel)) (ns_cons (PySem.W.mg_of X G xa_InvalidCranks) (kt_InvalidCranks_InvalidRegister.trans (by decide +kernel)) (ns_cons (PySem.W.mg_of X G xa_InvalidMachine) (kt_InvalidMachine_InvalidRegister.trans (by decide +kernel)) (ns_cons (PySem.W.mg_of X G xa_InvalidNumber) (kt_InvalidNumber_InvalidRegister.trans (by decide +kernel)) (ns_cons (PySem.W.mg_of X G xa_InvalidPlace) (kt_InvalidPlace_InvalidRegister.trans (by decide +kernel)) (ns_cons (PySem.W.mg_of X G xa_InvalidPlan) (kt_InvalidPlan_InvalidRegister.trans (by decide +kernel)) (ns_cons (PySem.W.mg_of X G xa_InvalidRegister) (kt_InvalidRegister_InvalidRegister.trans (by decide +kernel)) (ns_cons (PySem.W.mg_of X G xa_InvalidSetting) (kt_InvalidSetting_InvalidRegister.trans (by decide +kernel)) (ns_cons (PySem.W.mg_of X G xa_InvalidSyntax) (kt_InvalidSyntax_InvalidRegister.trans (by decide +kernel)) (ns_cons (PySem.W.mg_of X G xa_InvalidTurns) (kt_InvalidTurns_InvalidRegister.trans (by decide +kernel)) (ns_cons (PySem.W.mg_of X G xa_NothingToUndo) (kt_NothingToUndo_InvalidRegister.trans (by decide +kernel)) ns_nil))))))))))))))
    k_InvalidPlace := (ns_cons (PySem.W.mg_of X G xa_CrankError) (kt_CrankError_InvalidPlace.trans (by decide +kernel)) (ns_cons (PySem.W.mg_of X G xa_Impossible) (kt_Impossible_InvalidPlace.trans (by decide +kernel)) (ns_cons (PySem.W.mg_of X G xa_InvalidCommand) (kt_InvalidCommand_InvalidPlace.trans (by decide +kernel)) (ns_cons (PySem.W.mg_of X G xa_InvalidCounter) (kt_InvalidCounter_InvalidPlace.trans (by decide +kernel)) (ns_cons (PySem.W.mg_of X G xa_InvalidCranks) (kt_InvalidCranks_InvalidPlace.trans (by decide +kernel)) (ns_cons (PySem.W.mg_of X G xa_InvalidMachine) (kt_InvalidMachine_InvalidPlace.trans (by decide +kernel)) (ns_cons (PySem.W.mg_of X G xa_InvalidNumber) (kt_InvalidNumber_InvalidPlace.trans (by decide +kernel)) (ns_cons (PySem.W.mg_of X G xa_InvalidPlace) (kt_InvalidPlace_InvalidPlace.trans (by decide +kernel)) (ns_cons (PySem.W.mg_of X G xa_InvalidPlan) (kt_InvalidPlan_InvalidPlace.trans (by decide +kernel)) (ns_cons (PySem.W.mg_of X G xa_InvalidRegister) (kt_InvalidRegister_InvalidPlace.trans (by decide +kernel)) (ns_cons (PySem.W.mg_of X G xa_InvalidSetting) (kt_InvalidSetting_InvalidPlace.trans (by decide +kernel)) (ns_cons (PySem.W.mg_of X G xa_InvalidSyntax) (kt_InvalidSyntax_InvalidPlace.trans (by decide +kernel)) (ns_cons (PySem.W.mg_of X G xa_InvalidTurns) (kt_InvalidTurns_InvalidPlace.trans (by decide +kernel)) (ns_cons (PySem.W.mg_of X G xa_NothingToUndo) (kt_NothingToUndo_InvalidPlace.trans (by decide +kernel)) ns_nil))))))))))))))
    k_InvalidTurns := (ns_cons (PySem.W.mg_of X G xa_CrankError) (kt_CrankError_InvalidTurns.trans (by decide +kernel)) (ns_cons (PySem.W.mg_of X G xa_Impossible) (kt_Impossible_InvalidTurns.trans (by decide +kernel)) (ns_cons (PySem.W.mg_of X G xa_InvalidCommand) (kt_InvalidCommand_InvalidTurns.trans (by decide +kernel)) (ns_cons (PySem.W.mg_of X G xa_InvalidCounter) (kt_InvalidCounter_InvalidTurns.trans (by decide +kernel)) (ns_cons (PySem.W.mg_of X G xa_InvalidCranks) (kt_InvalidCranks_InvalidTurns.trans (by decide +kernel)) (ns_cons (PySem.W.mg_of X G xa_InvalidMachine) (kt_InvalidMachine_InvalidTurns.trans (by decide +kernel)) (ns_cons (PySem.W.mg_of X G xa_InvalidNumber) (kt_InvalidNumber_InvalidTurns.trans (by decide +kernel)) (ns_cons (PySem.W.mg_of X G xa_InvalidPlace) (kt_InvalidPlace_InvalidTurns.trans (by decide +kernel)) (ns_cons (PySem.W.mg_of X G xa_InvalidPlan) (kt_InvalidPlan_InvalidTurns.trans (by decide +kernel)) (ns_cons (PySem.W.mg_of X G xa_InvalidRegister) (kt_InvalidRegister_InvalidTurns.trans (by decide +kernel)) (ns_cons (PySem.W.mg_of X G xa_InvalidSetting) (kt_InvalidSetting_InvalidTurns.trans (by decide +kernel)) (ns_cons (PySem.W.mg_of X G xa_InvalidSyntax) (kt_InvalidSyntax_InvalidTurns.trans (by decide +kernel)) (ns_cons (PySem.W.mg_of X G xa_InvalidTurns) (kt_InvalidTurns_InvalidTurns.trans (by decide +kernel)) (ns_cons (PySem.W.mg_of X G xa_NothingToUndo) (kt_NothingToUndo_InvalidTurns.trans (by decide +kernel)) ns_nil))))))))))))))
    k_InvalidNumber := (ns_cons (PySem.W.mg_of X G xa_CrankError) (kt_CrankError_InvalidNumber.trans (by decide +kernel)) (ns_cons (PySem.W.mg_of X G xa_Impossible) (kt_Impossible_InvalidNumber.trans (by decide +kernel)) (ns_cons (PySem.W.mg_of X G xa_InvalidCommand) (kt_InvalidCommand_InvalidNumber.trans (by decide +kernel)) (ns_cons (PySem.W.mg_of X G xa_InvalidCounter) (kt_InvalidCounter_InvalidNumber.trans (by decide +kernel)) (ns_cons (PySem.W.mg_of X G xa_InvalidCranks) (kt_InvalidCranks_InvalidNumber.trans (by decide +kernel)) (ns_cons (PySem.W.mg_of X G xa_InvalidMachine) (kt_InvalidMachine_InvalidNumber.trans (by decide +kernel)) (ns_cons (PySem.W.mg_of X G xa_InvalidNumber) (kt_InvalidNumber_InvalidNumber.trans (by decide +kernel)) (ns_cons (PySem.W.mg_of X G xa_InvalidPlace) (kt_InvalidPlace_InvalidNumber.trans (by decide +kernel)) (ns_cons (PySem.W.mg_of X G xa_InvalidPlan) (kt_InvalidPlan_InvalidNumber.trans (by decide +kernel)) (ns_cons (PySem.W.mg_of X G xa_InvalidRegister) (kt_InvalidRegister_InvalidNumber.trans (by decide +kernel)) (ns_cons (PySem.W.mg_of X G xa_InvalidSetting) (kt_InvalidSetting_InvalidNumber.trans (by decide +kernel)) (ns_cons (PySem.W.mg_of X G xa_InvalidSyntax) (kt_InvalidSyntax_InvalidNumber.trans (by decide +kernel)) (ns_cons (PySem.W.mg_of X G xa_InvalidTurns) (kt_InvalidTurns_InvalidNumber.trans (by decide +kernel)) (ns_cons (PySem.W.mg_of X G xa_NothingToUndo) (kt_NothingToUndo_InvalidNumber.trans (by decide +kernel)) ns_nil))))))))))))))
    k_Impossible := (ns_cons (PySem.W.mg_of X G xa_CrankError) (kt_CrankError_Impossible.trans (by decide +kernel)) (ns_cons (PySem.W.mg_of X G xa_Impossible) (kt_Impossible_Impossible.trans (by decide +kernel)) (ns_cons (PySem.W.mg_of X G xa_InvalidCommand) (kt_InvalidCommand_Impossible.trans (by decide +kernel)) (ns_cons (PySem.W.mg_of X G xa_InvalidCounter) (kt_InvalidCounter_Impossible.trans (by decide +kernel)) (ns_cons (PySem.W.mg_of X G xa_InvalidCranks) (kt_InvalidCranks_Impossible.trans (by decide +kernel)) (ns_cons (PySem.W.mg_of X G xa_InvalidMachine) (kt_InvalidMachine_Impossible.trans (by decide +kernel)) (ns_cons (PySem.W.mg_of X G xa_InvalidNumber) (kt_InvalidNumber_Impossible.trans (by decide +kernel)) (ns_cons (PySem.W.mg_of X G xa_InvalidPlace) (kt_InvalidPlace_Impossible.trans (by decide +kernel)) (ns_cons (PySem.W.mg_of X G xa_InvalidPlan) (kt_InvalidPlan_Impossible.trans (by decide +kernel)) (ns_cons (PySem.W.mg_of X G xa_InvalidRegister) (kt_InvalidRegister_Impossible.trans (by decide +kernel)) (ns_cons (PySem.W.mg_of X G xa_InvalidSetting) (kt_InvalidSetting_Impossible.trans (by decide +kernel)) (ns_cons (PySem.W.mg_of X G xa_InvalidSyntax) (kt_InvalidSyntax_Impossible.trans (by decide +kernel)) (ns_cons (PySem.W.mg_of X G xa_InvalidTurns) (kt_InvalidTurns_Impossible.trans (by decide +kernel)) (ns_cons (PySem.W.mg_of X G xa_NothingToUndo) (kt_NothingToUndo_Impossible.trans (by decide +kernel)) ns_nil))))))))))))))
    k_NothingToUndo := (ns_cons (PySem.W.mg_of X G xa_CrankError) (kt_CrankError_NothingToUndo.trans (by decide +kernel)) (ns_cons (PySem.W.mg_of X G xa_Impossible) (kt_Impossible_NothingToUndo.trans (by decide +kernel)) (ns_cons (PySem.W.mg_of X G xa_InvalidCommand) (kt_InvalidCommand_NothingToUndo.trans (by decide +kernel)) (ns_cons (PySem.W.mg_of X G xa_InvalidCounter) (kt_InvalidCounter_NothingToUndo.trans (by decide +kernel)) (ns_cons (PySem.W.mg_of X G xa_InvalidCranks) (kt_InvalidCranks_NothingToUndo.trans (by decide +kernel)) (ns_cons (PySem.W.mg_of X G xa_InvalidMachine) (kt_InvalidMachine_NothingToUndo.trans (by decide +kernel)) (ns_cons (PySem.W.mg_of X G xa_InvalidNumber) (kt_InvalidNumber_NothingToUndo.trans (by decide +kernel)) (ns_cons (PySem.W.mg_of X G xa_InvalidPlace) (kt_InvalidPlace_NothingToUndo.trans (by decide +kernel)) (ns_cons (PySem.W.mg_of X G xa_InvalidPlan) (kt_InvalidPlan_NothingToUndo.trans (by decide +kernel)) (ns_cons (PySem.W.mg_of X G xa_InvalidRegister) (kt_InvalidRegister_NothingToUndo.trans (by decide +kernel)) (ns_cons (PySem.W.mg_of X G xa_InvalidSetting) (kt_InvalidSetting_NothingToUndo.trans (by decide +kernel)) (ns_cons (PySem.W.mg_of X G xa_InvalidSyntax) (kt_InvalidSyntax_NothingToUndo.trans (by decide +kernel)) (ns_cons (PySem.W.mg_of X G xa_InvalidTurns) (kt_InvalidTurns_NothingToUndo.trans (by decide +kernel)) (ns_cons (PySem.W.mg_of X G xa_NothingToUndo) (kt_NothingToUndo_NothingToUndo.trans (by decide +kernel)) ns_nil))))))))))))))
    k_InvalidCommand := (ns_cons (PySem.W.mg_of X G xa_CrankError) (kt_CrankError_InvalidCommand.trans (by decide +kernel)) (ns_cons (PySem.W.mg_of X G xa_Impossible) (kt_Impossible_InvalidCommand.trans (by decide +kernel)) (ns_cons (PySem.W.mg_of X G xa_InvalidCommand) (kt_InvalidCommand_InvalidCommand.trans (by decide +kernel)) (ns_cons (PySem.W.mg_of X G xa_InvalidCounter) (kt_InvalidCounter_InvalidCommand.trans (by decide +kernel)) (ns_cons (PySem.W.mg_of X G xa_InvalidCranks) (kt_InvalidCranks_InvalidCommand.trans (by decide +kernel)) (ns_cons (PySem.W.mg_of X G xa_InvalidMachine) (kt_InvalidMachine_InvalidCommand.trans (by decide +kernel)) (ns_cons (PySem.W.mg_of X G xa_InvalidNumber) (kt_InvalidNumber_InvalidCommand.trans (by decide +kernel)) (ns_cons (PySem.W.mg_of X G xa_InvalidPlace) (kt_InvalidPlace_InvalidCommand.trans (by decide +kernel)) (ns_cons (PySem.W.mg_of X G xa_InvalidPlan) (kt_InvalidPlan_InvalidCommand.trans (by decide +kernel)) (ns_cons (PySem.W.mg_of X G xa_InvalidRegister) (kt_InvalidRegister_InvalidCommand.trans (by decide +kernel)) (ns_cons (PySem.W.mg_of X G xa_InvalidSetting) (kt_InvalidSetting_InvalidCommand.trans (by decide +kernel)) (ns_cons (PySem.W.mg_of X G xa_InvalidSyntax) (kt_InvalidSyntax_InvalidCommand.trans (by decide +kernel)) (ns_cons (PySem.W.mg_of X G xa_InvalidTurns) (kt_InvalidTurns_InvalidCommand.trans (by decide +kernel)) (ns_cons (PySem.W.mg_of X G xa_NothingToUndo) (kt_NothingToUndo_InvalidCommand.trans (by decide +kernel)) ns_nil))))))))))))))
    k_InvalidMachine := (ns_cons (PySem.W.mg_of X G xa_CrankError) (kt_CrankError_InvalidMachine.trans (by decide +kernel)) (ns_cons (PySem.W.mg_of X G xa_Impossible) (kt_Impossible_InvalidMachine.trans (by decide +kernel)) (ns_cons (PySem.W.mg_of X G xa_InvalidCommand) (kt_InvalidCommand_InvalidMachine.trans (by decide +kernel)) (ns_cons (PySem.W.mg_of X G xa_InvalidCounter) (kt_InvalidCounter_InvalidMachine.trans (by decide +kernel)) (ns_cons (PySem.W.mg_of X G xa_InvalidCranks) (kt_InvalidCranks_InvalidMachine.trans (by decide +kernel)) (ns_cons (PySem.W.mg_of X G xa_InvalidMachine) (kt_InvalidMachine_InvalidMachine.trans (by decide +kernel)) (ns_cons (PySem.W.mg_of X G xa_InvalidNumber) (kt_InvalidNumber_InvalidMachine.trans (by decide +kernel)) (ns_cons (PySem.W.mg_of X G xa_InvalidPlace) (kt_InvalidPlace_InvalidMachine.trans (by decide +kernel)) (ns_cons (PySem.W.mg_of X G xa_InvalidPlan) (kt_InvalidPlan_InvalidMachine.trans (by decide +kernel)) (ns_cons (PySem.W.mg_of X G xa_InvalidRegister) (kt_InvalidRegister_InvalidMachine.trans (by decide +kernel)) (ns_cons (PySem.W.mg_of X G xa_InvalidSetting) (kt_InvalidSetting_InvalidMachine.trans (by decide +kernel)) (ns_cons (PySem.W.mg_of X G xa_InvalidSyntax) (kt_InvalidSyntax_InvalidMachine.trans (by decide +kernel)) (ns_cons (PySem.W.mg_of X G xa_InvalidTurns) (kt_InvalidTurns_InvalidMachine.trans (by decide +kernel)) (ns_cons (PySem.W.mg_of X G xa_NothingToUndo) (kt_NothingToUndo_InvalidMachine.trans (by decide +kernel)) ns_nil))))))))))))))
    k_InvalidCranks := (ns_cons (PySem.W.mg_of X G xa_CrankError) (kt_CrankError_InvalidCranks.trans (by decide +kernel)) (ns_cons (PySem.W.mg_of X G xa_Impossible) (kt_Impossible_InvalidCranks.trans (by decide +kernel)) (ns_cons (PySem.W.mg_of X G xa_InvalidCommand) (kt_InvalidCommand_InvalidCranks.trans (by decide +kernel)) (ns_cons (PySem.W.mg_of X G xa_InvalidCounter) (kt_InvalidCounter_InvalidCranks.trans (by decide +kernel)) (ns_cons (PySem.W.mg_of X G xa_InvalidCranks) (kt_InvalidCranks_InvalidCranks.trans (by decide +kernel)) (ns_cons (PySem.W.mg_of X G xa_InvalidMachine) (kt_InvalidMachine_InvalidCranks.trans (by decide +kernel)) (ns_cons (PySem.W.mg_of X G xa_InvalidNumber) (kt_InvalidNumber_InvalidCranks.trans (by decide +kernel)) (ns_cons (PySem.W.mg_of X G xa_InvalidPlace) (kt_InvalidPlace_InvalidCranks.trans (by decide +kernel)) (ns_cons (PySem.W.mg_of X G xa_InvalidPlan) (kt_InvalidPlan_InvalidCranks.trans (by decide +kernel)) (ns_cons (PySem.W.mg_of X G xa_InvalidRegister) (kt_InvalidRegister_InvalidCranks.trans (by decide +kernel)) (ns_cons (PySem.W.mg_of X G xa_InvalidSetting) (kt_InvalidSetting_InvalidCranks.trans (by decide +kernel)) (ns_cons (PySem.W.mg_of X G xa_InvalidSyntax) (kt_InvalidSyntax_InvalidCranks.trans (by decide +kernel)) (ns_cons (PySem.W.mg_of X G xa_InvalidTurns) (kt_InvalidTurns_InvalidCranks.trans (by decide +kernel)) (ns_cons (PySem.W.mg_of X G xa_NothingToUndo) (kt_NothingToUndo_InvalidCranks.trans (by decide +kernel)) ns_nil))))))))))))))
    k_InvalidCounter := (ns_cons (PySem.W.mg_of X G xa_CrankError) (kt_CrankError_InvalidCounter.trans (by decide +kernel)) (ns_cons (PySem.W.mg_of X G xa_Impossible) (kt_Impossible_InvalidCounter.trans (by decide +kernel)) (ns_cons (PySem.W.mg_of X G xa_InvalidCommand) (kt_InvalidCommand_InvalidCounter.trans (by decide +kernel)) (ns_cons (PySem.W.mg_of X G xa_InvalidCounter) (kt_InvalidCounter_InvalidCounter.trans (by decide +kernel)) (ns_cons (PySem.W.mg_of X G xa_InvalidCranks) (kt_InvalidCranks_InvalidCounter.trans (by decide +kernel)) (ns_cons (PySem.W.mg_of X G xa_InvalidMachine) (kt_InvalidMachine_InvalidCounter.trans (by decide +kernel)) (ns_cons (PySem.W.mg_of X G xa_InvalidNumber) (kt_InvalidNumber_InvalidCounter.trans (by decide +kernel)) (ns_cons (PySem.W.mg_of X G xa_InvalidPlace) (kt_InvalidPlace_InvalidCounter.trans (by decide +kernel)) (ns_cons (PySem.W.mg_of X G xa_InvalidPlan) (kt_InvalidPlan_InvalidCounter.trans (by decide +kernel)) (ns_cons (PySem.W.mg_of X G xa_InvalidRegister) (kt_InvalidRegister_InvalidCounter.trans (by decide +kernel)) (ns_cons (PySem.W.mg_of X G xa_InvalidSetting) (kt_InvalidSetting_InvalidCounter.trans (by decide +kernel)) (ns_cons (PySem.W.mg_of X G xa_InvalidSyntax) (kt_InvalidSyntax_InvalidCounter.trans (by decide +kernel)) (ns_cons (PySem.W.mg_of X G xa_InvalidTurns) (kt_InvalidTurns_InvalidCounter.trans (by decide +kernel)) (ns_cons (PySem.W.mg_of X G xa_NothingToUndo) (kt_NothingToUndo_InvalidCounter.trans (by decide +kernel)) ns_nil))))))))))))))
    k_InvalidPlan := (ns_cons (PySem.W.mg_of X G xa_CrankError) (kt_CrankError_InvalidPlan.trans (by decide +kernel)) (ns_cons (PySem.W.mg_of X G xa_Impossible) (kt_Impossible_InvalidPlan.trans (by decide +kernel)) (ns_cons (PySem.W.mg_of X G xa_InvalidCommand) (kt_InvalidCommand_InvalidPlan.trans (by decide +kernel)) (ns_cons (PySem.W.mg_of X G xa_InvalidCounter) (kt_InvalidCounter_InvalidPlan.trans (by decide +kernel)) (ns_cons (PySem.W.mg_of X G xa_InvalidCranks) (kt_InvalidCranks_InvalidPlan.trans (by decide +kernel)) (ns_cons (PySem.W.mg_of X G xa_InvalidMachine) (kt_InvalidMachine_InvalidPlan.trans (by decide +kernel)) (ns_cons (PySem.W.mg_of X G xa_InvalidNumber) (kt_InvalidNumber_InvalidPlan.trans (by decide +kernel)) (ns_cons (PySem.W.mg_of X G xa_InvalidPlace) (kt_InvalidPlace_InvalidPlan.trans (by decide +kernel)) (ns_cons (PySem.W.mg_of X G xa_InvalidPlan) (kt_InvalidPlan_InvalidPlan.trans (by decide +kernel)) (ns_cons (PySem.W.mg_of X G xa_InvalidRegister) (kt_InvalidRegister_InvalidPlan.trans (by decide +kernel)) (ns_cons (PySem.W.mg_of X G xa_InvalidSetting) (kt_InvalidSetting_InvalidPlan.trans (by decide +kernel)) (ns_cons (PySem.W.mg_of X G xa_InvalidSyntax) (kt_InvalidSyntax_InvalidPlan.trans (by decide +kernel)) (ns_cons (PySem.W.mg_of X G xa_InvalidTurns) (kt_InvalidTurns_InvalidPlan.trans (by decide +kernel)) (ns_cons (PySem.W.mg_of X G xa_NothingToUndo) (kt_NothingToUndo_InvalidPlan.trans (by decide +kernel)) ns_nil))))))))))))))
    k_InvalidSyntax := (ns_cons (PySem.W.mg_of X G xa_CrankError) (kt_CrankError_InvalidSyntax.trans (by decide +kernel)) (ns_cons (PySem.W.mg_of X G xa_Impossible) (kt_Impossible_InvalidSyntax.trans (by decide +kernel)) (ns_cons (PySem.W.mg_of X G xa_InvalidCommand) (kt_InvalidCommand_InvalidSyntax.trans (by decide +kernel)) (ns_cons (PySem.W.mg_of X G xa_InvalidCounter) (kt_InvalidCounter_InvalidSyntax.trans (by decide +kernel)) (ns_cons (PySem.W.mg_of X G xa_InvalidCranks) (kt_InvalidCranks_InvalidSyntax.trans (by decide +kernel)) (ns_cons (PySem.W.mg_of X G xa_InvalidMachine) (kt_InvalidMachine_InvalidSyntax.trans (by decide +kernel)) (ns_cons (PySem.W.mg_of X G xa_InvalidNumber) (kt_InvalidNumber_InvalidSyntax.trans (by decide +kernel)) (ns_cons (PySem.W.mg_of X G xa_InvalidPlace) (kt_InvalidPlace_InvalidSyntax.trans (by decide +kernel)) (ns_cons (PySem.W.mg_of X G xa_InvalidPlan) (kt_InvalidPlan_InvalidSyntax.trans (by decide +kernel)) (ns_cons (PySem.W.mg_of X G xa_InvalidRegister) (kt_InvalidRegister_InvalidSyntax.trans (by decide +kernel)) (ns_cons (PySem.W.mg_of X G xa_InvalidSetting) (kt_InvalidSetting_InvalidSyntax.trans (by decide +kernel)) (ns_cons (PySem.W.mg_of X G xa_InvalidSyntax) (kt_InvalidSyntax_InvalidSyntax.trans (by decide +kernel)) (ns_cons (PySem.W.mg_of X G xa_InvalidTurns) (kt_InvalidTurns_InvalidSyntax.trans (by decide +kernel)) (ns_cons (PySem.W.mg_of X G xa_NothingToUndo) (kt_NothingToUndo_InvalidSyntax.trans (by decide +kernel)) ns_nil))))))))))))))
    k_CrankError := (ns_cons (PySem.W.mg_of X G xa_CrankError) (kt_CrankError_CrankError.trans (by decide +kernel)) (ns_cons (PySem.W.mg_of X G xa_Impossible) (kt_Impossible_CrankError.trans (by decide +kernel)) (ns_cons (PySem.W.mg_of X G xa_InvalidCommand) (kt_InvalidCommand_CrankError.trans (by decide +kernel)) (ns_cons (PySem.W.mg_of X G xa_InvalidCounter) (kt_InvalidCounter_CrankError.trans (by decide +kernel)) (ns_cons (PySem.W.mg_of X G xa_InvalidCranks) (kt_InvalidCranks_CrankError.trans (by decide +kernel)) (ns_cons (PySem.W.mg_of X G xa_InvalidMachine) (kt_InvalidMachine_CrankError.trans (by decide +kernel)) (ns_cons (PySem.W.mg_of X G xa_InvalidNumber) (kt_InvalidNumber_CrankError.trans (by decide +kernel)) (ns_cons (PySem.W.mg_of X G xa_InvalidPlace) (kt_InvalidPlace_CrankError.trans (by decide +kernel)) (ns_cons (PySem.W.mg_of X G xa_InvalidPlan) (kt_InvalidPlan_CrankError.trans (by decide +kernel)) (ns_cons (PySem.W.mg_of X G xa_InvalidRegister) (kt_InvalidRegister_CrankError.trans (by decide +kernel)) (ns_cons (PySem.W.mg_of X G xa_InvalidSetting) (kt_InvalidSetting_CrankError.trans (by decide +kernel)) (ns_cons (PySem.W.mg_of X G xa_InvalidSyntax) (kt_InvalidSyntax_CrankError.trans (by decide +kernel)) (ns_cons (PySem.W.mg_of X G xa_InvalidTurns) (kt_InvalidTurns_CrankError.trans (by decide +kernel)) (ns_cons (PySem.W.mg_of X G xa_NothingToUndo) (kt_NothingToUndo_CrankError.trans (by decide +kernel)) ns_nil))))))))))))))
    k_ValueError := (ns_cons (PySem.W.mg_of X G xa_CrankError) (kt_CrankError_ValueError.trans (by decide +kernel)) (ns_cons (PySem.W.mg_of X G xa_Impossible) (kt_Impossible_ValueError.trans (by decide +kernel)) (ns_cons (PySem.W.mg_of X G xa_InvalidCommand) (kt_InvalidCommand_ValueError.trans (by decide +kernel)) (ns_cons (PySem.W.mg_of X G xa_InvalidCounter) (kt_InvalidCounter_ValueError.trans (by decide +kernel)) (ns_cons (PySem.W.mg_of X G xa_InvalidCranks) (kt_InvalidCranks_ValueError.trans (by decide +kernel)) (ns_cons (PySem.W.mg_of X G xa_InvalidMachine) (kt_InvalidMachine_ValueError.trans (by decide +kernel)) (ns_cons (PySem.W.mg_of X G xa_InvalidNumber) (kt_InvalidNumber_ValueError.trans (by decide +kernel)) (ns_cons (PySem.W.mg_of X G xa_InvalidPlace) (kt_InvalidPlace_ValueError.trans (by decide +kernel)) (ns_cons (PySem.W.mg_of X G xa_InvalidPlan) (kt_InvalidPlan_ValueError.trans (by decide +kernel)) (ns_cons (PySem.W.mg_of X G xa_InvalidRegister) (kt_InvalidRegister_ValueError.trans (by decide +kernel)) (ns_cons (PySem.W.mg_of X G xa_InvalidSetting) (kt_InvalidSetting_ValueError.trans (by decide +kernel)) (ns_cons (PySem.W.mg_of X G xa_InvalidSyntax) (kt_InvalidSyntax_ValueError.trans (by decide +kernel)) (ns_cons (PySem.W.mg_of X G xa_InvalidTurns) (kt_InvalidTurns_ValueError.trans (by decide +kernel)) (ns_cons (PySem.W.mg_of X G xa_NothingToUndo) (kt_NothingToUndo_ValueError.trans (by decide +kernel)) ns_nil))))))))))))))
    xf_index := (ns_cons (PySem.W.mg_of X G xa_InvalidCounter) ⟨⟨ga_InvalidCounter, gg_InvalidCounter, ex_InvalidCounter, hd_InvalidCounter, cl_InvalidCounter, mo_InvalidCounter⟩, no_InvalidCounter⟩ (ns_cons (PySem.W.mg_of X G xa_InvalidCranks) ⟨⟨ga_InvalidCranks, gg_InvalidCranks, ex_InvalidCranks, hd_InvalidCranks, cl_InvalidCranks, mo_InvalidCranks⟩, no_InvalidCranks⟩ (ns_cons (PySem.W.mg_of X G xa_InvalidMachine) ⟨⟨ga_InvalidMachine, gg_InvalidMachine, ex_InvalidMachine, hd_InvalidMachine, cl_InvalidMachine, mo_InvalidMachine⟩, no_InvalidMachine⟩ (ns_cons (PySem.W.mg_of X G xa_InvalidPlan) ⟨⟨ga_InvalidPlan, gg_InvalidPlan, ex_InvalidPlan, hd_InvalidPlan, cl_InvalidPlan, mo_InvalidPlan⟩, no_InvalidPlan⟩ ns_nil))))
    xf_word := (ns_cons (PySem.W.mg_of X G xa_InvalidSyntax) ⟨⟨ga_InvalidSyntax, gg_InvalidSyntax, ex_InvalidSyntax, hd_InvalidSyntax, cl_InvalidSyntax, mo_InvalidSyntax⟩, no_InvalidSyntax⟩ ns_nil)
    mgn := fun n C h => PySem.W.mg_of X G h
    h_CrankError := fun C h => by have z := (PySem.W.mg_of X G xa_CrankError).symm.trans h; cases z; exact xa_CrankError
    h_Impossible := fun C h => by have z := (PySem.W.mg_of X G xa_Impossible).symm.trans h; cases z; exact xa_Impossible
    h_InvalidCommand := fun C h => by have z := (PySem.W.mg_of X G xa_InvalidCommand).symm.trans h; cases z; exact xa_InvalidCommand
    h_InvalidCounter := fun C h => by have z := (PySem.W.mg_of X G xa_InvalidCounter).symm.trans h; cases z; exact xa_InvalidCounter
    h_InvalidCranks := fun C h => by have z := (PySem.W.mg_of X G xa_InvalidCranks).symm.trans h; cases z; exact xa_InvalidCranks
    h_InvalidMachine := fun C h => by have z := (PySem.W.mg_of X G xa_InvalidMachine).symm.trans h; cases z; exact xa_InvalidMachine
    h_InvalidNumber := fun C h => by have z := (PySem.W.mg_of X G xa_InvalidNumber).symm.trans h; cases z; exact xa_InvalidNumber
    h_InvalidPlace := fun C h => by have z := (PySem.W.mg_of X G xa_InvalidPlace).symm.trans h; cases z; exact xa_InvalidPlace
    h_InvalidPlan := fun C h => by have z := (PySem.W.mg_of X G xa_InvalidPlan).symm.trans h; cases z; exact xa_InvalidPlan
    h_InvalidRegister := fun C h => by have z := (PySem.W.mg_of X G xa_InvalidRegister).symm.trans h; cases z; exact xa_InvalidRegister
    h_InvalidSetting := fun C h => by have z := (PySem.W.mg_of X G xa_InvalidSetting).symm.trans h; cases z; exact xa_InvalidSetting
    h_InvalidSyntax := fun C h => by have z := (PySem.W.mg_of X G xa_InvalidSyntax).symm.trans h; cases z; exact xa_InvalidSyntax
    h_InvalidTurns := fun C h => by have z := (PySem.W.mg_of X G xa_InvalidTurns).symm.trans h; cases z; exact xa_InvalidTurns
    h_NothingToUndo := fun C h => by have z := (PySem.W.mg_of X G xa_NothingToUndo).symm.trans h; cases z; exact xa_NothingToUndo
    kx_InvalidCounter := ⟨fun s u ws _ h => match ws, h with | [_], _ => .of_eq rfl⟩
    kx_InvalidCranks := ⟨fun s u ws _ h => match ws, h with | [_], _ => .of_eq rfl⟩
    kx_InvalidMachine := ⟨fun s u ws _ h => match ws, h with | [_], _ => .of_eq rfl⟩
    kx_InvalidPlan := ⟨fun s u ws _ h => match ws, h with | [_], _ => .of_eq rfl⟩
    kx_InvalidSyntax := ⟨fun s u ws _ h => match ws, h with | [_], _ => .of_eq rfl⟩
    b_ValueError := PySem.W.mg_none_of X G z_ValueError
    b_abs := PySem.W.mg_none_of X G z_abs
    b_enumerate := PySem.W.mg_none_of X G z_enumerate
    b_int := PySem.W.mg_none_of X G z_int
    b_isinstance := PySem.W.mg_none_of X G z_isinstance
    b_len := PySem.W.mg_none_of X G z_len
    b_max := PySem.W.mg_none_of X G z_max
    b_min := PySem.W.mg_none_of X G z_min
    b_range := PySem.W.mg_none_of X G z_range
    b_repr := PySem.W.mg_none_of X G z_repr }
  exact ⟨mm, inferInstance, T.e_law.fd, fun s v => .of_eq rfl, fun base _ _ => ok_law (base := base) T⟩
end CK

open PySem PySem.W PyProof.Rows in
set_option maxHeartbeats 0 in
theorem PySem.Challenge.cw_crankcarry_k00_errors_made_holds : PySem.Challenge.rw_crankcarry_k00_errors_made.Holds := by
  w_on; o_law; k_head; (case hw => w_witness2)
  k_fill
  refine CK.walkGE (l := PySem.Challenge.rw_crankcarry_k00_errors_made) (n := 63) (k := 4) (x := "_law_script") (f := CK.m_law) rfl (by decide) rfl ⟨rfl, by decide, by decide⟩ (fun w h Y => PySem.W.kIn_of Y) ?F CK.law_true
  case F =>
    intro w mg fa h KX G hmg
    refine' CK.all_mk KX G hmg ?a0 ?l0 ?c0 ?k0 ?a1 ?l1 ?c1 ?k1 ?a2 ?l2 ?c2 ?k2 ?a3 ?l3 ?c3 ?k3 ?a4 ?l4 ?c4 ?k4 ?a5 ?l5 ?c5 ?k5 ?xa_CrankError ?xa_Impossible ?xa_InvalidCommand ?xa_InvalidCounter ?xa_InvalidCranks ?xa_InvalidMachine ?xa_InvalidNumber ?xa_InvalidPlace ?xa_InvalidPlan ?xa_InvalidRegister ?xa_InvalidSetting ?xa_InvalidSyntax ?xa_InvalidTurns ?xa_NothingToUndo ?xgt ?xtk ?xb1 ?xb2 ?xb3 ?ga_CrankError ?gg_CrankError ?ex_CrankError ?hd_CrankError ?cl_CrankError ?mo_CrankError ?kp_CrankError ?ty_CrankError ?q_CrankError ?ga_Impossible ?gg_Impossible ?ex_Impossible ?hd_Impossible ?cl_Impossible ?mo_Impossible ?kp_Impossible ?ty_Impossible ?q_Impossible ?ga_InvalidCommand ?gg_InvalidCommand ?ex_InvalidCommand ?hd_InvalidCommand ?cl_InvalidCommand ?mo_InvalidCommand ?kp_InvalidCommand ?ty_InvalidCommand ?q_InvalidCommand ?ga_InvalidCounter ?gg_InvalidCounter ?ex_InvalidCounter ?hd_InvalidCounter ?cl_InvalidCounter ?mo_InvalidCounter ?kp_InvalidCounter ?ty_InvalidCounter ?lk_InvalidCounter ?sa_InvalidCounter ?ii_InvalidCounter ?it_InvalidCounter ?il_InvalidCounter ?iq_InvalidCounter ?ik_InvalidCounter ?no_InvalidCounter ?ga_InvalidCranks ?gg_InvalidCranks ?ex_InvalidCranks ?hd_InvalidCranks ?cl_InvalidCranks ?mo_InvalidCranks ?kp_InvalidCranks ?ty_InvalidCranks ?lk_InvalidCranks ?sa_InvalidCranks ?ii_InvalidCranks ?it_InvalidCranks ?il_InvalidCranks ?iq_InvalidCranks ?ik_InvalidCranks ?no_InvalidCranks ?ga_InvalidMachine ?gg_InvalidMachine ?ex_InvalidMachine ?hd_InvalidMachine ?cl_InvalidMachine ?mo_InvalidMachine ?kp_InvalidMachine ?ty_InvalidMachine ?lk_InvalidMachine ?sa_InvalidMachine ?ii_InvalidMachine ?it_InvalidMachine ?il_InvalidMachine ?iq_InvalidMachine ?ik_InvalidMachine ?no_InvalidMachine ?ga_InvalidNumber ?gg_InvalidNumber ?ex_InvalidNumber ?hd_InvalidNumber ?cl_InvalidNumber ?mo_InvalidNumber ?kp_InvalidNumber ?ty_InvalidNumber ?q_InvalidNumber ?ga_InvalidPlace ?gg_InvalidPlace ?ex_InvalidPlace ?hd_InvalidPlace ?cl_InvalidPlace ?mo_InvalidPlace ?kp_InvalidPlace ?ty_InvalidPlace ?q_InvalidPlace ?ga_InvalidPlan ?gg_InvalidPlan ?ex_InvalidPlan ?hd_InvalidPlan ?cl_InvalidPlan ?mo_InvalidPlan ?kp_InvalidPlan ?ty_InvalidPlan ?lk_InvalidPlan ?sa_InvalidPlan ?ii_InvalidPlan ?it_InvalidPlan ?il_InvalidPlan ?iq_InvalidPlan ?ik_InvalidPlan ?no_InvalidPlan ?ga_InvalidRegister ?gg_InvalidRegister ?ex_InvalidRegister ?hd_InvalidRegister ?cl_InvalidRegister ?mo_InvalidRegister ?kp_InvalidRegister ?ty_InvalidRegister ?q_InvalidRegister ?ga_InvalidSetting ?gg_InvalidSetting ?ex_InvalidSetting ?hd_InvalidSetting ?cl_InvalidSetting ?mo_InvalidSetting ?kp_InvalidSetting ?ty_InvalidSetting ?q_InvalidSetting ?ga_InvalidSyntax ?gg_InvalidSyntax ?ex_InvalidSyntax ?hd_InvalidSyntax ?cl_InvalidSyntax ?mo_InvalidSyntax ?kp_InvalidSyntax ?ty_InvalidSyntax ?lk_InvalidSyntax ?sa_InvalidSyntax ?ii_InvalidSyntax ?it_InvalidSyntax ?il_InvalidSyntax ?iq_InvalidSyntax ?ik_InvalidSyntax ?no_InvalidSyntax ?ga_InvalidTurns ?gg_InvalidTurns ?ex_InvalidTurns ?hd_InvalidTurns ?cl_InvalidTurns ?mo_InvalidTurns ?kp_InvalidTurns ?ty_InvalidTurns ?q_InvalidTurns ?ga_NothingToUndo ?gg_NothingToUndo ?ex_NothingToUndo ?hd_NothingToUndo ?cl_NothingToUndo ?mo_NothingToUndo ?kp_NothingToUndo ?ty_NothingToUndo ?q_NothingToUndo ?em_CrankError ?em_Impossible ?em_InvalidCommand ?em_InvalidCounter ?em_InvalidCranks ?em_InvalidMachine ?em_InvalidNumber ?em_InvalidPlace ?em_InvalidPlan ?em_InvalidRegister ?em_InvalidSetting ?em_InvalidSyntax ?em_InvalidTurns ?em_NothingToUndo ?ex_0 ?hd_0 ?ty_0 ?kt_CrankError_CrankError ?kt_Impossible_CrankError ?kt_InvalidCommand_CrankError ?kt_InvalidCounter_CrankError ?kt_InvalidCranks_CrankError ?kt_InvalidMachine_CrankError ?kt_InvalidNumber_CrankError ?kt_InvalidPlace_CrankError ?kt_InvalidPlan_CrankError ?kt_InvalidRegister_CrankError ?kt_InvalidSetting_CrankError ?kt_InvalidSyntax_CrankError ?kt_InvalidTurns_CrankError ?kt_NothingToUndo_CrankError ?kt_CrankError_Impossible ?kt_Impossible_Impossible ?kt_InvalidCommand_Impossible ?kt_InvalidCounter_Impossible ?kt_InvalidCranks_Impossible ?kt_InvalidMachine_Impossible ?kt_InvalidNumber_Impossible ?kt_InvalidPlace_Impossible ?kt_InvalidPlan_Impossible ?kt_InvalidRegister_Impossible ?kt_InvalidSetting_Impossible ?kt_InvalidSyntax_Impossible ?kt_InvalidTurns_Impossible ?kt_NothingToUndo_Impossible ?kt_CrankError_InvalidCommand ?kt_Impossible_InvalidCommand ?kt_InvalidCommand_InvalidCommand ?kt_InvalidCounter_InvalidCommand ?kt_InvalidCranks_InvalidCommand ?kt_InvalidMachine_InvalidCommand ?kt_InvalidNumber_InvalidCommand ?kt_InvalidPlace_InvalidCommand ?kt_InvalidPlan_InvalidCommand ?kt_InvalidRegister_InvalidCommand ?kt_InvalidSetting_InvalidCommand ?kt_InvalidSyntax_InvalidCommand ?kt_InvalidTurns_InvalidCommand ?kt_NothingToUndo_InvalidCommand ?kt_CrankError_InvalidCounter ?kt_Impossible_InvalidCounter ?kt_InvalidCommand_InvalidCounter ?kt_InvalidCounter_InvalidCounter ?kt_InvalidCranks_InvalidCounter ?kt_InvalidMachine_InvalidCounter ?kt_InvalidNumber_InvalidCounter ?kt_InvalidPlace_InvalidCounter ?kt_InvalidPlan_InvalidCounter ?kt_InvalidRegister_InvalidCounter ?kt_InvalidSetting_InvalidCounter ?kt_InvalidSyntax_InvalidCounter ?kt_InvalidTurns_InvalidCounter ?kt_NothingToUndo_InvalidCounter ?kt_CrankError_InvalidCranks ?kt_Impossible_InvalidCranks ?kt_InvalidCommand_InvalidCranks ?kt_InvalidCounter_InvalidCranks ?kt_InvalidCranks_InvalidCranks ?kt_InvalidMachine_InvalidCranks ?kt_InvalidNumber_InvalidCranks ?kt_InvalidPlace_InvalidCranks ?kt_InvalidPlan_InvalidCranks ?kt_InvalidRegister_InvalidCranks ?kt_InvalidSetting_InvalidCranks ?kt_InvalidSyntax_InvalidCranks ?kt_InvalidTurns_InvalidCranks ?kt_NothingToUndo_InvalidCranks ?kt_CrankError_InvalidMachine ?kt_Impossible_InvalidMachine ?kt_InvalidCommand_InvalidMachine ?kt_InvalidCounter_InvalidMachine ?kt_InvalidCranks_InvalidMachine ?kt_InvalidMachine_InvalidMachine ?kt_InvalidNumber_InvalidMachine ?kt_InvalidPlace_InvalidMachine ?kt_InvalidPlan_InvalidMachine ?kt_InvalidRegister_InvalidMachine ?kt_InvalidSetting_InvalidMachine ?kt_InvalidSyntax_InvalidMachine ?kt_InvalidTurns_InvalidMachine ?kt_NothingToUndo_InvalidMachine ?kt_CrankError_InvalidNumber ?kt_Impossible_InvalidNumber ?kt_InvalidCommand_InvalidNumber ?kt_InvalidCounter_InvalidNumber ?kt_InvalidCranks_InvalidNumber ?kt_InvalidMachine_InvalidNumber ?kt_InvalidNumber_InvalidNumber ?kt_InvalidPlace_InvalidNumber ?kt_InvalidPlan_InvalidNumber ?kt_InvalidRegister_InvalidNumber ?kt_InvalidSetting_InvalidNumber ?kt_InvalidSyntax_InvalidNumber ?kt_InvalidTurns_InvalidNumber ?kt_NothingToUndo_InvalidNumber ?kt_CrankError_InvalidPlace ?kt_Impossible_InvalidPlace ?kt_InvalidCommand_InvalidPlace ?kt_InvalidCounter_InvalidPlace ?kt_InvalidCranks_InvalidPlace ?kt_InvalidMachine_InvalidPlace ?kt_InvalidNumber_InvalidPlace ?kt_InvalidPlace_InvalidPlace ?kt_InvalidPlan_InvalidPlace ?kt_InvalidRegister_InvalidPlace ?kt_InvalidSetting_InvalidPlace ?kt_InvalidSyntax_InvalidPlace ?kt_InvalidTurns_InvalidPlace ?kt_NothingToUndo_InvalidPlace ?kt_CrankError_InvalidPlan ?kt_Impossible_InvalidPlan ?kt_InvalidCommand_InvalidPlan ?kt_InvalidCounter_InvalidPlan ?kt_InvalidCranks_InvalidPlan ?kt_InvalidMachine_InvalidPlan ?kt_InvalidNumber_InvalidPlan ?kt_InvalidPlace_InvalidPlan ?kt_InvalidPlan_InvalidPlan ?kt_InvalidRegister_InvalidPlan ?kt_InvalidSetting_InvalidPlan ?kt_InvalidSyntax_InvalidPlan ?kt_InvalidTurns_InvalidPlan ?kt_NothingToUndo_InvalidPlan ?kt_CrankError_InvalidRegister ?kt_Impossible_InvalidRegister ?kt_InvalidCommand_InvalidRegister ?kt_InvalidCounter_InvalidRegister ?kt_InvalidCranks_InvalidRegister ?kt_InvalidMachine_InvalidRegister ?kt_InvalidNumber_InvalidRegister ?kt_InvalidPlace_InvalidRegister ?kt_InvalidPlan_InvalidRegister ?kt_InvalidRegister_InvalidRegister ?kt_InvalidSetting_InvalidRegister ?kt_InvalidSyntax_InvalidRegister ?kt_InvalidTurns_InvalidRegister ?kt_NothingToUndo_InvalidRegister ?kt_CrankError_InvalidSetting ?kt_Impossible_InvalidSetting ?kt_InvalidCommand_InvalidSetting ?kt_InvalidCounter_InvalidSetting ?kt_InvalidCranks_InvalidSetting ?kt_InvalidMachine_InvalidSetting ?kt_InvalidNumber_InvalidSetting ?kt_InvalidPlace_InvalidSetting ?kt_InvalidPlan_InvalidSetting ?kt_InvalidRegister_InvalidSetting ?kt_InvalidSetting_InvalidSetting ?kt_InvalidSyntax_InvalidSetting ?kt_InvalidTurns_InvalidSetting ?kt_NothingToUndo_InvalidSetting ?kt_CrankError_InvalidSyntax ?kt_Impossible_InvalidSyntax ?kt_InvalidCommand_InvalidSyntax ?kt_InvalidCounter_InvalidSyntax ?kt_InvalidCranks_InvalidSyntax ?kt_InvalidMachine_InvalidSyntax ?kt_InvalidNumber_InvalidSyntax ?kt_InvalidPlace_InvalidSyntax ?kt_InvalidPlan_InvalidSyntax ?kt_InvalidRegister_InvalidSyntax ?kt_InvalidSetting_InvalidSyntax ?kt_InvalidSyntax_InvalidSyntax ?kt_InvalidTurns_InvalidSyntax ?kt_NothingToUndo_InvalidSyntax ?kt_CrankError_InvalidTurns ?kt_Impossible_InvalidTurns ?kt_InvalidCommand_InvalidTurns ?kt_InvalidCounter_InvalidTurns ?kt_InvalidCranks_InvalidTurns ?kt_InvalidMachine_InvalidTurns ?kt_InvalidNumber_InvalidTurns ?kt_InvalidPlace_InvalidTurns ?kt_InvalidPlan_InvalidTurns ?kt_InvalidRegister_InvalidTurns ?kt_InvalidSetting_InvalidTurns ?kt_InvalidSyntax_InvalidTurns ?kt_InvalidTurns_InvalidTurns ?kt_NothingToUndo_InvalidTurns ?kt_CrankError_NothingToUndo ?kt_Impossible_NothingToUndo ?kt_InvalidCommand_NothingToUndo ?kt_InvalidCounter_NothingToUndo ?kt_InvalidCranks_NothingToUndo ?kt_InvalidMachine_NothingToUndo ?kt_InvalidNumber_NothingToUndo ?kt_InvalidPlace_NothingToUndo ?kt_InvalidPlan_NothingToUndo ?kt_InvalidRegister_NothingToUndo ?kt_InvalidSetting_NothingToUndo ?kt_InvalidSyntax_NothingToUndo ?kt_InvalidTurns_NothingToUndo ?kt_NothingToUndo_NothingToUndo ?kt_CrankError_ValueError ?kt_Impossible_ValueError ?kt_InvalidCommand_ValueError ?kt_InvalidCounter_ValueError ?kt_InvalidCranks_ValueError ?kt_InvalidMachine_ValueError ?kt_InvalidNumber_ValueError ?kt_InvalidPlace_ValueError ?kt_InvalidPlan_ValueError ?kt_InvalidRegister_ValueError ?kt_InvalidSetting_ValueError ?kt_InvalidSyntax_ValueError ?kt_InvalidTurns_ValueError ?kt_NothingToUndo_ValueError ?z_ValueError ?z_abs ?z_enumerate ?z_int ?z_isinstance ?z_len ?z_max ?z_min ?z_range ?z_repr
    (case a0 => k_is)
    (case l0 => k_is)
    (case c0 => k_is)
    (case k0 => k_is)
    (case a1 => k_is)
    (case l1 => k_is)
    (case c1 => k_is)
    (case k1 => k_is)
    (case a2 => k_is)
    (case l2 => k_is)
    (case c2 => k_is)
    (case k2 => k_is)
    (case a3 => k_is)
    (case l3 => k_is)
    (case c3 => k_is)
    (case k3 => k_is)
    (case a4 => k_is)
    (case l4 => k_is)
    (case c4 => k_is)
    (case k4 => k_is)
    (case a5 => k_is)
    (case l5 => k_is)
    (case c5 => k_is)
    (case k5 => k_is)
    (case xa_CrankError => k_is)
    (case xa_Impossible => k_is)
    (case xa_InvalidCommand => k_is)
    (case xa_InvalidCounter => k_is)
    (case xa_InvalidCranks => k_is)
    (case xa_InvalidMachine => k_is)
    (case xa_InvalidNumber => k_is)
    (case xa_InvalidPlace => k_is)
    (case xa_InvalidPlan => k_is)
    (case xa_InvalidRegister => k_is)
    (case xa_InvalidSetting => k_is)
    (case xa_InvalidSyntax => k_is)
    (case xa_InvalidTurns => k_is)
    (case xa_NothingToUndo => k_is)
    (case xgt => k_is)
    (case xtk => k_is)
    (case xb1 => k_is)
    (case xb2 => k_is)
    (case xb3 => k_is)
    (case ga_CrankError => k_is)
    (case gg_CrankError => k_is)
    (case ex_CrankError => k_is)
    (case hd_CrankError => k_is)
    (case cl_CrankError => k_is)
    (case mo_CrankError => k_is)
    (case kp_CrankError => k_is)
    (case ty_CrankError => k_is)
    (case q_CrankError => k_exc)
    (case ga_Impossible => k_is)
    (case gg_Impossible => k_is)
    (case ex_Impossible => k_is)
    (case hd_Impossible => k_is)
    (case cl_Impossible => k_is)
    (case mo_Impossible => k_is)
    (case kp_Impossible => k_is)
    (case ty_Impossible => k_is)
    (case q_Impossible => k_exc)
    (case ga_InvalidCommand => k_is)
    (case gg_InvalidCommand => k_is)
    (case ex_InvalidCommand => k_is)
    (case hd_InvalidCommand => k_is)
    (case cl_InvalidCommand => k_is)
    (case mo_InvalidCommand => k_is)
    (case kp_InvalidCommand => k_is)
    (case ty_InvalidCommand => k_is)
    (case q_InvalidCommand => k_exc)
    (case ga_InvalidCounter => k_is)
    (case gg_InvalidCounter => k_is)
    (case ex_InvalidCounter => k_is)
    (case hd_InvalidCounter => k_is)
    (case cl_InvalidCounter => k_is)
    (case mo_InvalidCounter => k_is)
    (case kp_InvalidCounter => k_is)
    (case ty_InvalidCounter => k_is)
    (case lk_InvalidCounter => k_is)
    (case sa_InvalidCounter => k_is)
    (case ii_InvalidCounter => k_is)
    (case it_InvalidCounter => k_is)
    (case il_InvalidCounter => k_is)
    (case iq_InvalidCounter => k_is)
    (case ik_InvalidCounter => k_is)
    (case no_InvalidCounter => k_is)
    (case ga_InvalidCranks => k_is)
    (case gg_InvalidCranks => k_is)
    (case ex_InvalidCranks => k_is)
    (case hd_InvalidCranks => k_is)
    (case cl_InvalidCranks => k_is)
    (case mo_InvalidCranks => k_is)
    (case kp_InvalidCranks => k_is)
    (case ty_InvalidCranks => k_is)
    (case lk_InvalidCranks => k_is)
    (case sa_InvalidCranks => k_is)
    (case ii_InvalidCranks => k_is)
    (case it_InvalidCranks => k_is)
    (case il_InvalidCranks => k_is)
    (case iq_InvalidCranks => k_is)
    (case ik_InvalidCranks => k_is)
    (case no_InvalidCranks => k_is)
    (case ga_InvalidMachine => k_is)
    (case gg_InvalidMachine => k_is)
    (case ex_InvalidMachine => k_is)
    (case hd_InvalidMachine => k_is)
    (case cl_InvalidMachine => k_is)
    (case mo_InvalidMachine => k_is)
    (case kp_InvalidMachine => k_is)
    (case ty_InvalidMachine => k_is)
    (case lk_InvalidMachine => k_is)
    (case sa_InvalidMachine => k_is)
    (case ii_InvalidMachine => k_is)
    (case it_InvalidMachine => k_is)
    (case il_InvalidMachine => k_is)
    (case iq_InvalidMachine => k_is)
    (case ik_InvalidMachine => k_is)
    (case no_InvalidMachine => k_is)
    (case ga_InvalidNumber => k_is)
    (case gg_InvalidNumber => k_is)
    (case ex_InvalidNumber => k_is)
    (case hd_InvalidNumber => k_is)
    (case cl_InvalidNumber => k_is)
    (case mo_InvalidNumber => k_is)
    (case kp_InvalidNumber => k_is)
    (case ty_InvalidNumber => k_is)
    (case q_InvalidNumber => k_exc)
    (case ga_InvalidPlace => k_is)
    (case gg_InvalidPlace => k_is)
    (case ex_InvalidPlace => k_is)
    (case hd_InvalidPlace => k_is)
    (case cl_InvalidPlace => k_is)
    (case mo_InvalidPlace => k_is)
    (case kp_InvalidPlace => k_is)
    (case ty_InvalidPlace => k_is)
    (case q_InvalidPlace => k_exc)
    (case ga_InvalidPlan => k_is)
    (case gg_InvalidPlan => k_is)
    (case ex_InvalidPlan => k_is)
    (case hd_InvalidPlan => k_is)
    (case cl_InvalidPlan => k_is)
    (case mo_InvalidPlan => k_is)
    (case kp_InvalidPlan => k_is)
    (case ty_InvalidPlan => k_is)
    (case lk_InvalidPlan => k_is)
    (case sa_InvalidPlan => k_is)
    (case ii_InvalidPlan => k_is)
    (case it_InvalidPlan => k_is)
    (case il_InvalidPlan => k_is)
    (case iq_InvalidPlan => k_is)
    (case ik_InvalidPlan => k_is)
    (case no_InvalidPlan => k_is)
    (case ga_InvalidRegister => k_is)
    (case gg_InvalidRegister => k_is)
    (case ex_InvalidRegister => k_is)
    (case hd_InvalidRegister => k_is)
    (case cl_InvalidRegister => k_is)
    (case mo_InvalidRegister => k_is)
    (case kp_InvalidRegister => k_is)
    (case ty_InvalidRegister => k_is)
    (case q_InvalidRegister => k_exc)
    (case ga_InvalidSetting => k_is)
    (case gg_InvalidSetting => k_is)
    (case ex_InvalidSetting => k_is)
    (case hd_InvalidSetting => k_is)
    (case cl_InvalidSetting => k_is)
    (case mo_InvalidSetting => k_is)
    (case kp_InvalidSetting => k_is)
    (case ty_InvalidSetting => k_is)
    (case q_InvalidSetting => k_exc)
    (case ga_InvalidSyntax => k_is)
    (case gg_InvalidSyntax => k_is)
    (case ex_InvalidSyntax => k_is)
    (case hd_InvalidSyntax => k_is)
    (case cl_InvalidSyntax => k_is)
    (case mo_InvalidSyntax => k_is)
    (case kp_InvalidSyntax => k_is)
    (case ty_InvalidSyntax => k_is)
    (case lk_InvalidSyntax => k_is)
    (case sa_InvalidSyntax => k_is)
    (case ii_InvalidSyntax => k_is)
    (case it_InvalidSyntax => k_is)
    (case il_InvalidSyntax => k_is)
    (case iq_InvalidSyntax => k_is)
    (case ik_InvalidSyntax => k_is)
    (case no_InvalidSyntax => k_is)
    (case ga_InvalidTurns => k_is)
    (case gg_InvalidTurns => k_is)
    (case ex_InvalidTurns => k_is)
    (case hd_InvalidTurns => k_is)
    (case cl_InvalidTurns => k_is)
    (case mo_InvalidTurns => k_is)
    (case kp_InvalidTurns => k_is)
    (case ty_InvalidTurns => k_is)
    (case q_InvalidTurns => k_exc)
    (case ga_NothingToUndo => k_is)
    (case gg_NothingToUndo => k_is)
    (case ex_NothingToUndo => k_is)
    (case hd_NothingToUndo => k_is)
    (case cl_NothingToUndo => k_is)
    (case mo_NothingToUndo => k_is)
    (case kp_NothingToUndo => k_is)
    (case ty_NothingToUndo => k_is)
    (case q_NothingToUndo => k_exc)
    (case em_CrankError => k_is)
    (case em_Impossible => k_is)
    (case em_InvalidCommand => k_is)
    (case em_InvalidCounter => k_is)
    (case em_InvalidCranks => k_is)
    (case em_InvalidMachine => k_is)
    (case em_InvalidNumber => k_is)
    (case em_InvalidPlace => k_is)
    (case em_InvalidPlan => k_is)
    (case em_InvalidRegister => k_is)
    (case em_InvalidSetting => k_is)
    (case em_InvalidSyntax => k_is)
    (case em_InvalidTurns => k_is)
    (case em_NothingToUndo => k_is)
    (case ex_0 => k_is)
    (case hd_0 => k_is)
    (case ty_0 => k_is)
    (case kt_CrankError_CrankError => first | k_is | rfl)
    (case kt_Impossible_CrankError => first | k_is | rfl)
    (case kt_InvalidCommand_CrankError => first | k_is | rfl)
    (case kt_InvalidCounter_CrankError => first | k_is | rfl)
    (case kt_InvalidCranks_CrankError => first | k_is | rfl)
    (case kt_InvalidMachine_CrankError => first | k_is | rfl)
    (case kt_InvalidNumber_CrankError => first | k_is | rfl)
    (case kt_InvalidPlace_CrankError => first | k_is | rfl)
    (case kt_InvalidPlan_CrankError => first | k_is | rfl)
    (case kt_InvalidRegister_CrankError => first | k_is | rfl)
    (case kt_InvalidSetting_CrankError => first | k_is | rfl)
    (case kt_InvalidSyntax_CrankError => first | k_is | rfl)
    (case kt_InvalidTurns_CrankError => first | k_is | rfl)
    (case kt_NothingToUndo_CrankError => first | k_is | rfl)
    (case kt_CrankError_Impossible => first | k_is | rfl)
    (case kt_Impossible_Impossible => first | k_is | rfl)
    (case kt_InvalidCommand_Impossible => first | k_is | rfl)
    (case kt_InvalidCounter_Impossible => first | k_is | rfl)
    (case kt_InvalidCranks_Impossible => first | k_is | rfl)
    (case kt_InvalidMachine_Impossible => first | k_is | rfl)
    (case kt_InvalidNumber_Impossible => first | k_is | rfl)
    (case kt_InvalidPlace_Impossible => first | k_is | rfl)
    (case kt_InvalidPlan_Impossible => first | k_is | rfl)
    (case kt_InvalidRegister_Impossible => first | k_is | rfl)
    (case kt_InvalidSetting_Impossible => first | k_is | rfl)
    (case kt_InvalidSyntax_Impossible => first | k_is | rfl)
    (case kt_InvalidTurns_Impossible => first | k_is | rfl)
    (case kt_NothingToUndo_Impossible => first | k_is | rfl)
    (case kt_CrankError_InvalidCommand => first | k_is | rfl)
    (case kt_Impossible_InvalidCommand => first | k_is | rfl)
    (case kt_InvalidCommand_InvalidCommand => first | k_is | rfl)
    (case kt_InvalidCounter_InvalidCommand => first | k_is | rfl)
    (case kt_InvalidCranks_InvalidCommand => first | k_is | rfl)
    (case kt_InvalidMachine_InvalidCommand => first | k_is | rfl)
    (case kt_InvalidNumber_InvalidCommand => first | k_is | rfl)
    (case kt_InvalidPlace_InvalidCommand => first | k_is | rfl)
    (case kt_InvalidPlan_InvalidCommand => first | k_is | rfl)
    (case kt_InvalidRegister_InvalidCommand => first | k_is | rfl)
    (case kt_InvalidSetting_InvalidCommand => first | k_is | rfl)
    (case kt_InvalidSyntax_InvalidCommand => first | k_is | rfl)
    (case kt_InvalidTurns_InvalidCommand => first | k_is | rfl)
    (case kt_NothingToUndo_InvalidCommand => first | k_is | rfl)
    (case kt_CrankError_InvalidCounter => first | k_is | rfl)
    (case kt_Impossible_InvalidCounter => first | k_is | rfl)
    (case kt_InvalidCommand_InvalidCounter => first | k_is | rfl)
    (case kt_InvalidCounter_InvalidCounter => first | k_is | rfl)
    (case kt_InvalidCranks_InvalidCounter => first | k_is | rfl)
    (case kt_InvalidMachine_InvalidCounter => first | k_is | rfl)
    (case kt_InvalidNumber_InvalidCounter => first | k_is | rfl)
    (case kt_InvalidPlace_InvalidCounter => first | k_is | rfl)
    (case kt_InvalidPlan_InvalidCounter => first | k_is | rfl)
    (case kt_InvalidRegister_InvalidCounter => first | k_is | rfl)
    (case kt_InvalidSetting_InvalidCounter => first | k_is | rfl)
    (case kt_InvalidSyntax_InvalidCounter => first | k_is | rfl)
    (case kt_InvalidTurns_InvalidCounter => first | k_is | rfl)
    (case kt_NothingToUndo_InvalidCounter => first | k_is | rfl)
    (case kt_CrankError_InvalidCranks => first | k_is | rfl)
    (case kt_Impossible_InvalidCranks => first | k_is | rfl)
    (case kt_InvalidCommand_InvalidCranks => first | k_is | rfl)
    (case kt_InvalidCounter_InvalidCranks => first | k_is | rfl)
    (case kt_InvalidCranks_InvalidCranks => first | k_is | rfl)
    (case kt_InvalidMachine_InvalidCranks => first | k_is | rfl)
    (case kt_InvalidNumber_InvalidCranks => first | k_is | rfl)
    (case kt_InvalidPlace_InvalidCranks => first | k_is | rfl)
    (case kt_InvalidPlan_InvalidCranks => first | k_is | rfl)
    (case kt_InvalidRegister_InvalidCranks => first | k_is | rfl)
    (case kt_InvalidSetting_InvalidCranks => first | k_is | rfl)
    (case kt_InvalidSyntax_InvalidCranks => first | k_is | rfl)
    (case kt_InvalidTurns_InvalidCranks => first | k_is | rfl)
    (case kt_NothingToUndo_InvalidCranks => first | k_is | rfl)
    (case kt_CrankError_InvalidMachine => first | k_is | rfl)
    (case kt_Impossible_InvalidMachine => first | k_is | rfl)
    (case kt_InvalidCommand_InvalidMachine => first | k_is | rfl)
    (case kt_InvalidCounter_InvalidMachine => first | k_is | rfl)
    (case kt_InvalidCranks_InvalidMachine => first | k_is | rfl)
    (case kt_InvalidMachine_InvalidMachine => first | k_is | rfl)
    (case kt_InvalidNumber_InvalidMachine => first | k_is | rfl)
    (case kt_InvalidPlace_InvalidMachine => first | k_is | rfl)
    (case kt_InvalidPlan_InvalidMachine => first | k_is | rfl)
    (case kt_InvalidRegister_InvalidMachine => first | k_is | rfl)
    (case kt_InvalidSetting_InvalidMachine => first | k_is | rfl)
    (case kt_InvalidSyntax_InvalidMachine => first | k_is | rfl)
    (case kt_InvalidTurns_InvalidMachine => first | k_is | rfl)
    (case kt_NothingToUndo_InvalidMachine => first | k_is | rfl)
    (case kt_CrankError_InvalidNumber => first | k_is | rfl)
    (case kt_Impossible_InvalidNumber => first | k_is | rfl)
    (case kt_InvalidCommand_InvalidNumber => first | k_is | rfl)
    (case kt_InvalidCounter_InvalidNumber => first | k_is | rfl)
    (case kt_InvalidCranks_InvalidNumber => first | k_is | rfl)
    (case kt_InvalidMachine_InvalidNumber => first | k_is | rfl)
    (case kt_InvalidNumber_InvalidNumber => first | k_is | rfl)
    (case kt_InvalidPlace_InvalidNumber => first | k_is | rfl)
    (case kt_InvalidPlan_InvalidNumber => first | k_is | rfl)
    (case kt_InvalidRegister_InvalidNumber => first | k_is | rfl)
    (case kt_InvalidSetting_InvalidNumber => first | k_is | rfl)
    (case kt_InvalidSyntax_InvalidNumber => first | k_is | rfl)
    (case kt_InvalidTurns_InvalidNumber => first | k_is | rfl)
    (case kt_NothingToUndo_InvalidNumber => first | k_is | rfl)
    (case kt_CrankError_InvalidPlace => first | k_is | rfl)
    (case kt_Impossible_InvalidPlace => first | k_is | rfl)
    (case kt_InvalidCommand_InvalidPlace => first | k_is | rfl)
    (case kt_InvalidCounter_InvalidPlace => first | k_is | rfl)
    (case kt_InvalidCranks_InvalidPlace => first | k_is | rfl)
    (case kt_InvalidMachine_InvalidPlace => first | k_is | rfl)
    (case kt_InvalidNumber_InvalidPlace => first | k_is | rfl)
    (case kt_InvalidPlace_InvalidPlace => first | k_is | rfl)
    (case kt_InvalidPlan_InvalidPlace => first | k_is | rfl)
    (case kt_InvalidRegister_InvalidPlace => first | k_is | rfl)
    (case kt_InvalidSetting_InvalidPlace => first | k_is | rfl)
    (case kt_InvalidSyntax_InvalidPlace => first | k_is | rfl)
    (case kt_InvalidTurns_InvalidPlace => first | k_is | rfl)
    (case kt_NothingToUndo_InvalidPlace => first | k_is | rfl)
    (case kt_CrankError_InvalidPlan => first | k_is | rfl)
    (case kt_Impossible_InvalidPlan => first | k_is | rfl)
    (case kt_InvalidCommand_InvalidPlan => first | k_is | rfl)
    (case kt_InvalidCounter_InvalidPlan => first | k_is | rfl)
    (case kt_InvalidCranks_InvalidPlan => first | k_is | rfl)
    (case kt_InvalidMachine_InvalidPlan => first | k_is | rfl)
    (case kt_InvalidNumber_InvalidPlan => first | k_is | rfl)
    (case kt_InvalidPlace_InvalidPlan => first | k_is | rfl)
    (case kt_InvalidPlan_InvalidPlan => first | k_is | rfl)
    (case kt_InvalidRegister_InvalidPlan => first | k_is | rfl)
    (case kt_InvalidSetting_InvalidPlan => first | k_is | rfl)
    (case kt_InvalidSyntax_InvalidPlan => first | k_is | rfl)
    (case kt_InvalidTurns_InvalidPlan => first | k_is | rfl)
    (case kt_NothingToUndo_InvalidPlan => first | k_is | rfl)
    (case kt_CrankError_InvalidRegister => first | k_is | rfl)
    (case kt_Impossible_InvalidRegister => first | k_is | rfl)
    (case kt_InvalidCommand_InvalidRegister => first | k_is | rfl)
    (case kt_InvalidCounter_InvalidRegister => first | k_is | rfl)
    (case kt_InvalidCranks_InvalidRegister => first | k_is | rfl)
    (case kt_InvalidMachine_InvalidRegister => first | k_is | rfl)
    (case kt_InvalidNumber_InvalidRegister => first | k_is | rfl)
    (case kt_InvalidPlace_InvalidRegister => first | k_is | rfl)
    (case kt_InvalidPlan_InvalidRegister => first | k_is | rfl)
    (case kt_InvalidRegister_InvalidRegister => first | k_is | rfl)
    (case kt_InvalidSetting_InvalidRegister => first | k_is | rfl)
    (case kt_InvalidSyntax_InvalidRegister => first | k_is | rfl)
    (case kt_InvalidTurns_InvalidRegister => first | k_is | rfl)
    (case kt_NothingToUndo_InvalidRegister => first | k_is | rfl)
    (case kt_CrankError_InvalidSetting => first | k_is | rfl)
    (case kt_Impossible_InvalidSetting => first | k_is | rfl)
    (case kt_InvalidCommand_InvalidSetting => first | k_is | rfl)
    (case kt_InvalidCounter_InvalidSetting => first | k_is | rfl)
    (case kt_InvalidCranks_InvalidSetting => first | k_is | rfl)
    (case kt_InvalidMachine_InvalidSetting => first | k_is | rfl)
    (case kt_InvalidNumber_InvalidSetting => first | k_is | rfl)
    (case kt_InvalidPlace_InvalidSetting => first | k_is | rfl)
    (case kt_InvalidPlan_InvalidSetting => first | k_is | rfl)
    (case kt_InvalidRegister_InvalidSetting => first | k_is | rfl)
    (case kt_InvalidSetting_InvalidSetting => first | k_is | rfl)
    (case kt_InvalidSyntax_InvalidSetting => first | k_is | rfl)
    (case kt_InvalidTurns_InvalidSetting => first | k_is | rfl)
    (case kt_NothingToUndo_InvalidSetting => first | k_is | rfl)
    (case kt_CrankError_InvalidSyntax => first | k_is | rfl)
    (case kt_Impossible_InvalidSyntax => first | k_is | rfl)
    (case kt_InvalidCommand_InvalidSyntax => first | k_is | rfl)
    (case kt_InvalidCounter_InvalidSyntax => first | k_is | rfl)
    (case kt_InvalidCranks_InvalidSyntax => first | k_is | rfl)
    (case kt_InvalidMachine_InvalidSyntax => first | k_is | rfl)
    (case kt_InvalidNumber_InvalidSyntax => first | k_is | rfl)
    (case kt_InvalidPlace_InvalidSyntax => first | k_is | rfl)
    (case kt_InvalidPlan_InvalidSyntax => first | k_is | rfl)
    (case kt_InvalidRegister_InvalidSyntax => first | k_is | rfl)
    (case kt_InvalidSetting_InvalidSyntax => first | k_is | rfl)
    (case kt_InvalidSyntax_InvalidSyntax => first | k_is | rfl)
    (case kt_InvalidTurns_InvalidSyntax => first | k_is | rfl)
    (case kt_NothingToUndo_InvalidSyntax => first | k_is | rfl)
    (case kt_CrankError_InvalidTurns => first | k_is | rfl)
    (case kt_Impossible_InvalidTurns => first | k_is | rfl)
    (case kt_InvalidCommand_InvalidTurns => first | k_is | rfl)
    (case kt_InvalidCounter_InvalidTurns => first | k_is | rfl)
    (case kt_InvalidCranks_InvalidTurns => first | k_is | rfl)
    (case kt_InvalidMachine_InvalidTurns => first | k_is | rfl)
    (case kt_InvalidNumber_InvalidTurns => first | k_is | rfl)
    (case kt_InvalidPlace_InvalidTurns => first | k_is | rfl)
    (case kt_InvalidPlan_InvalidTurns => first | k_is | rfl)
    (case kt_InvalidRegister_InvalidTurns => first | k_is | rfl)
    (case kt_InvalidSetting_InvalidTurns => first | k_is | rfl)
    (case kt_InvalidSyntax_InvalidTurns => first | k_is | rfl)
    (case kt_InvalidTurns_InvalidTurns => first | k_is | rfl)
    (case kt_NothingToUndo_InvalidTurns => first | k_is | rfl)
    (case kt_CrankError_NothingToUndo => first | k_is | rfl)
    (case kt_Impossible_NothingToUndo => first | k_is | rfl)
    (case kt_InvalidCommand_NothingToUndo => first | k_is | rfl)
    (case kt_InvalidCounter_NothingToUndo => first | k_is | rfl)
    (case kt_InvalidCranks_NothingToUndo => first | k_is | rfl)
    (case kt_InvalidMachine_NothingToUndo => first | k_is | rfl)
    (case kt_InvalidNumber_NothingToUndo => first | k_is | rfl)
    (case kt_InvalidPlace_NothingToUndo => first | k_is | rfl)
    (case kt_InvalidPlan_NothingToUndo => first | k_is | rfl)
    (case kt_InvalidRegister_NothingToUndo => first | k_is | rfl)
    (case kt_InvalidSetting_NothingToUndo => first | k_is | rfl)
    (case kt_InvalidSyntax_NothingToUndo => first | k_is | rfl)
    (case kt_InvalidTurns_NothingToUndo => first | k_is | rfl)
    (case kt_NothingToUndo_NothingToUndo => first | k_is | rfl)
    (case kt_CrankError_ValueError => first | k_is | rfl)
    (case kt_Impossible_ValueError => first | k_is | rfl)
    (case kt_InvalidCommand_ValueError => first | k_is | rfl)
    (case kt_InvalidCounter_ValueError => first | k_is | rfl)
    (case kt_InvalidCranks_ValueError => first | k_is | rfl)
    (case kt_InvalidMachine_ValueError => first | k_is | rfl)
    (case kt_InvalidNumber_ValueError => first | k_is | rfl)
    (case kt_InvalidPlace_ValueError => first | k_is | rfl)
    (case kt_InvalidPlan_ValueError => first | k_is | rfl)
    (case kt_InvalidRegister_ValueError => first | k_is | rfl)
    (case kt_InvalidSetting_ValueError => first | k_is | rfl)
    (case kt_InvalidSyntax_ValueError => first | k_is | rfl)
    (case kt_InvalidTurns_ValueError => first | k_is | rfl)
    (case kt_NothingToUndo_ValueError => first | k_is | rfl)
    (case z_ValueError => k_is)
    (case z_abs => k_is)
    (case z_enumerate => k_is)
    (case z_int => k_is)
    (case z_isinstance => k_is)
    (case z_len => k_is)
    (case z_max => k_is)
    (case z_min => k_is)
    (case z_range => k_is)
    (case z_repr => k_is)
