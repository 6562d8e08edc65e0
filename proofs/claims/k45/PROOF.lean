import PyProof.Rows.All
import Wide.All
import OpenK.AllK
import Wide.FinOn
import HandS.ForMost
import HandS.Wide
import HandS.WideBits
import HandS.TupAny
import PyProof.ReprReads
import PyProof.Rows.RuleB_pow
import HandS.TupLe
import HandS.Star
import HandS.Zip
import HandS.Style
import HandS.SortInts
import HandS.RaiseMore
import HandS.IsInst
import PyProof.ReprRoads
import PyProof.CallFns
import HandS.Deep
import HandS.Conv
import HandS.Flow
import HandS.Property
import HandS.TryOnly
import KE.LtSeq
import HandS.FStr
import HandS.Exc
import HandS.ExcOwn
import HandS.ExcInit
import HandS.ExcField
import HandS.ExcIs
import HandS.ExcCtx
import KE.KExcIs
import HandS.More
import KE.KDictKeyed
import HandS.Codes
import PySem.Challenge.RW_crankcarry_k45_undone_and_forked
set_option Elab.async false
set_option linter.all false
set_option maxRecDepth 100000
set_option maxHeartbeats 4000000
namespace CK
open PySem PySem.Spec PyProof.Rows L2
abbrev SS := List (Option V)
/-- what is one's own: a list, an object of the law's class with these attributes, a dict with these keys -/
inductive Bt where
  | l
  | o (fs : List Str)
  | d (ks : List Key)
/-- what is told of an object that remembers -/
structure Inf where
  pl : Int
  a : PyData
  b : PyData
/-- a slot: unset, shared data, a thing of its own, a list that is only read, any other value, an object that remembers -/
inductive Sl where
  | no
  | im (d : PyData)
  | bx (t : Bt) (ds : List PyData)
  | fz (ds : List PyData)
  | raw (v : V)
  | mo (x : Inf)
/-- a key as data -/
def keyP : Key → PyData
  | .inl i => .int i
  | .inr x => .str x
mutual
inductive Rp (K : PySem.W.Frag) (H : Hp) : V → PyData → Prop
  | non : Rp K H .non .none
  | bl (b : Bool) : Rp K H (.bl b) (.bool b)
  | int (i : Int) : Rp K H (.int i) (.int i)
  | str (x : Str) : Rp K H (.str x) (.str x)
  | lst {a : Addr} {xs : List V} {ds : List PyData} : H a = some (.lst xs) → RpAll K H xs ds → Rp K H (.ref a) (.list ds)
  | tup {a : Addr} {xs : List V} {ds : List PyData} : SqT K H a xs → RpAll K H xs ds → Rp K H (.ref a) (.tuple ds)
  | dic {a : Addr} {ks : List Key} {xs : List V} {ds : List PyData} : H a = some (.dK (ks.zip xs)) → RpAll K H xs ds → Rp K H (.ref a) (.dict ((ks.map keyP).zip ds))
inductive RpAll (K : PySem.W.Frag) (H : Hp) : List V → List PyData → Prop
  | nil : RpAll K H [] []
  | cons {v : V} {vs : List V} {d : PyData} {ds : List PyData} : Rp K H v d → RpAll K H vs ds → RpAll K H (v :: vs) (d :: ds)
end
section
variable {K : PySem.W.Frag} {G H H' : Hp}
theorem sqT_same (s : Same G H) {a : Addr} {xs : List V} (h : SqT K G a xs) : SqT K H a xs := by
  rcases h with (h | ⟨o, h⟩) | h
  · exact .inl (.inl (s _ _ h))
  · exact .inl (.inr ⟨o, s _ _ h⟩)
  · exact .inr h
mutual
theorem Rp.same (s : Same G H) : ∀ {v : V} {d : PyData}, Rp K G v d → Rp K H v d
  | _, _, .non => .non
  | _, _, .bl b => .bl b
  | _, _, .int i => .int i
  | _, _, .str x => .str x
  | _, _, .lst e r => .lst (s _ _ e) (RpAll.same s r)
  | _, _, .tup e r => .tup (sqT_same s e) (RpAll.same s r)
  | _, _, .dic e r => .dic (s _ _ e) (RpAll.same s r)
theorem RpAll.same (s : Same G H) : ∀ {vs : List V} {ds : List PyData}, RpAll K G vs ds → RpAll K H vs ds
  | _, _, .nil => .nil
  | _, _, .cons a b => .cons (Rp.same s a) (RpAll.same s b)
end
mutual
theorem Rp.dp : ∀ {d : PyData} {v : V}, Rp K H v d → d.hasDict = false → Dp K H v d
  | .none, _, h, _ => by cases h; exact .non
  | .bool b, _, h, _ => by cases h; exact .bl b
  | .int i, _, h, _ => by cases h; exact .int i
  | .str x, _, h, _ => by cases h; exact .str x
  | .list ds, _, h, n => by cases h with | lst e r => exact .lst (SqL.of e) (RpAll.dp r (by simpa only [PyData.hasDict] using n))
  | .tuple ds, _, h, n => by cases h with | tup e r => exact .tup e (RpAll.dp r (by simpa only [PyData.hasDict] using n))
  | .dict _, _, h, n => by simp only [PyData.hasDict] at n; cases n
theorem RpAll.dp : ∀ {ds : List PyData} {vs : List V}, RpAll K H vs ds → PyData.hasDictAll ds = false → DpAll K H vs ds
  | [], _, h, _ => by cases h; exact .nil
  | d :: ds, _, h, n => by
    simp only [PyData.hasDictAll, Bool.or_eq_false_iff] at n
    cases h with | cons a b => exact .cons (Rp.dp a n.1) (RpAll.dp b n.2)
end
/-- data that can be compared hold no dict -/
theorem noDict_shaped {d : PyData} (h : SeqAt.shaped d = true) : d.hasDict = false := PyData.hasDict_of_canLay d (SeqAt.canLay_of_shaped h)
theorem RpAll.length : ∀ {vs : List V} {ds : List PyData}, RpAll K H vs ds → vs.length = ds.length
  | _, _, .nil => rfl
  | _, _, .cons _ t => congrArg (· + 1) (RpAll.length t)
theorem RpAll.get : ∀ {vs : List V} {ds : List PyData} {i : Nat} {d : PyData}, RpAll K H vs ds → ds[i]? = some d → ∃ v, vs[i]? = some v ∧ Rp K H v d
  | _, _, _, _, .nil, e => by simp at e
  | _, _, 0, _, .cons r _, e => by simp at e; subst e; exact ⟨_, rfl, r⟩
  | _, _, i + 1, d, .cons _ t, e => by
    obtain ⟨v, h1, h2⟩ := RpAll.get (i := i) (d := d) t (by simpa using e)
    exact ⟨v, by simpa using h1, h2⟩
theorem RpAll.get' : ∀ {vs : List V} {ds : List PyData} {i : Nat} {v : V}, RpAll K H vs ds → vs[i]? = some v → ∃ d, ds[i]? = some d ∧ Rp K H v d
  | _, _, _, _, .nil, e => by simp at e
  | _, _, 0, _, .cons r _, e => by simp at e; subst e; exact ⟨_, rfl, r⟩
  | _, _, i + 1, d, .cons _ t, e => by
    obtain ⟨v, h1, h2⟩ := RpAll.get' (i := i) (v := d) t (by simpa using e)
    exact ⟨v, by simpa using h1, h2⟩
theorem RpAll.append : ∀ {vs ws : List V} {ds es : List PyData}, RpAll K H vs ds → RpAll K H ws es → RpAll K H (vs ++ ws) (ds ++ es)
  | _, _, _, _, .nil, s => s
  | _, _, _, _, .cons r t, s => .cons r (RpAll.append t s)
theorem RpAll.take : ∀ {vs : List V} {ds : List PyData} (n : Nat), RpAll K H vs ds → RpAll K H (vs.take n) (ds.take n)
  | _, _, 0, _ => .nil
  | _, _, _ + 1, .nil => .nil
  | _, _, n + 1, .cons r t => .cons r (RpAll.take n t)
theorem RpAll.drop : ∀ {vs : List V} {ds : List PyData} (n : Nat), RpAll K H vs ds → RpAll K H (vs.drop n) (ds.drop n)
  | _, _, 0, r => r
  | _, _, _ + 1, .nil => .nil
  | _, _, n + 1, .cons _ t => RpAll.drop n t
theorem RpAll.set {v : V} {d : PyData} (r : Rp K H v d) : ∀ {vs : List V} {ds : List PyData} (i : Nat), RpAll K H vs ds → RpAll K H (vs.set i v) (ds.set i d)
  | _, _, _, .nil => .nil
  | _, _, 0, .cons _ t => .cons r t
  | _, _, i + 1, .cons q t => .cons q (RpAll.set r i t)
theorem RpAll.reverse : ∀ {vs : List V} {ds : List PyData}, RpAll K H vs ds → RpAll K H vs.reverse ds.reverse
  | _, _, .nil => .nil
  | _, _, .cons r t => by
    rw [List.reverse_cons, List.reverse_cons]
    exact RpAll.append (RpAll.reverse t) (.cons r .nil)
theorem RpAll.rep {vs : List V} {ds : List PyData} (h : RpAll K H vs ds) : ∀ n : Nat, RpAll K H (List.replicate n vs).flatten (List.replicate n ds).flatten
  | 0 => .nil
  | n + 1 => by
    rw [List.replicate_succ, List.replicate_succ, List.flatten_cons, List.flatten_cons]
    exact RpAll.append h (RpAll.rep h n)
theorem RpAll.ofInts : ∀ (ns : List Int), RpAll K H (ns.map V.int) (ns.map PyData.int)
  | [] => .nil
  | n :: ns => .cons (.int n) (RpAll.ofInts ns)
end
/-- what may be written: lists, objects of the class at C, dicts -/
def Soft (C : Addr) (o : HO) : Prop := (∃ ws, o = .lst ws) ∨ (∃ dx fs, o = .ins C dx fs) ∨ ∃ kvs, o = .dK kvs
/-- none of the things that are known by their one object alone is shared newly -/
def Gn (G H G' : Hp) : Prop := ∀ a φ, H a = some (.ext φ) → G a = none → G' a = none
/-- what else is held of the heap, while none but lists and objects of the class C change -/
class Memo where
  C : Addr
  J : Hp → Hp → Prop
  stab : ∀ {G G' H H' : Hp}, J G H → Same G G' → (∀ a o, H a = some o → ¬ Soft C o → H' a = some o) → J G' H'
  W : Addr → Prop
  M : Hp → Hp → Addr → Inf → Prop
  mst : ∀ {G G' H H' : Hp} {p : Addr} {x : Inf}, M G H p x → Same G G' → Gn G H G' → (∀ a o, H a = some o → ¬ Soft C o → H' a = some o) → M G' H' p x
  mg : ∀ {G H : Hp} {p : Addr} {x : Inf}, M G H p x → G p ≠ none ∨ ∃ φ, H p = some (.ext φ)
/-- nothing is asked -/
class Triv (m : Memo) : Prop where
  all : ∀ G H, m.J G H
/-- nothing changes unseen -/
class Still (m : Memo) : Prop where
  st : ∀ a, ¬ m.W a
def plainAt (C : Addr) : Memo := ⟨C, fun _ _ => True, fun _ _ _ => trivial, fun _ => False, fun _ _ _ _ => False, fun h _ _ _ => h, fun h => h.elim⟩
def noW (m : Memo) : Memo := { m with W := fun _ => False }
instance (C : Addr) : Still (plainAt C) := ⟨fun _ z => z⟩
instance (m : Memo) : Still (noW m) := ⟨fun _ z => z⟩
instance (m : Memo) [Triv m] : Triv (noW m) := ⟨fun G H => Triv.all (m := m) G H⟩
instance (priority := 1) plainMemo : Memo := plainAt 0
instance (C : Addr) : Triv (plainAt C) := ⟨fun _ _ => trivial⟩
instance : Triv plainMemo := ⟨fun _ _ => trivial⟩
instance : Still plainMemo := ⟨fun _ z => z⟩
/-- what may change under a call: it is known by its one object alone -/
def VolO (o : HO) : Prop := ∃ φ, o = .ext φ
theorem volL {ws : List V} : ¬ VolO (.lst ws) := fun ⟨_, e⟩ => nomatch e
variable [Memo]
/-- where the attributes of an instance lie: its dict was made right ahead of it -/
abbrev Dct (p : Addr) := {d : Addr // d + 1 = p}
/-- how one's own thing lies -/
def Bx (H : Hp) (p : Addr) : Bt → List V → Prop
  | .l, ws => H p = some (.lst ws)
  | .o fs, ws => ∃ dx : Dct p, H p = some (.ins Memo.C dx.1 (fs.zip ws))
  | .d ks, ws => H p = some (.dK (ks.zip ws))
/-- what a slot tells of its value -/
def SlotOk (K : PySem.W.Frag) (G H : Hp) (o : Option V) : Sl → Prop
  | .no => True
  | .im d => ∃ v, o = some v ∧ Rp K G v d
  | .bx t ds => ∃ p ws, o = some (.ref p) ∧ Bx H p t ws ∧ G p = none ∧ RpAll K G ws ds
  | .fz ds => ∃ p ws, o = some (.ref p) ∧ SqL K G p ws ∧ RpAll K G ws ds
  | .raw v => o = some v
  | .mo x => ∃ p, o = some (.ref p) ∧ Memo.M G H p x
/-- an owned address -/
def Own (σ : SS) (δ : List Sl) (a : Addr) : Prop := ∃ (i : Nat) (t : Bt) (ds : List PyData), σ[i]? = some (some (.ref a)) ∧ δ[i]? = some (.bx t ds)
structure Rel (K : PySem.W.Frag) (G H : Hp) (σ : SS) (δ : List Sl) : Prop where
  sub : Same G H
  len : σ.length = δ.length
  slot : ∀ (i : Nat) (s : Sl), δ[i]? = some s → SlotOk K G H (σ[i]?.getD none) s
  inj : ∀ (i j : Nat) (p : Addr) (t u : Bt) (ds es : List PyData), σ[i]? = some (some (.ref p)) → δ[i]? = some (.bx t ds) → σ[j]? = some (some (.ref p)) → δ[j]? = some (.bx u es) → i = j
  inv : Memo.J G H
/-- what was not owned stays, and is not owned; nothing goes away; what is shared newly is new, or was owned -/
structure Stp (σ : SS) (δ : List Sl) (G H : Hp) (σ' : SS) (δ' : List Sl) (G' H' : Hp) : Prop where
  keep : ∀ a o, H a = some o → ¬ Own σ δ a → (¬ (VolO o ∧ Memo.W a) → H' a = some o) ∧ ¬ Own σ' δ' a
  dom : ∀ a, H' a = none → H a = none
  same : Same G G'
  grow : ∀ a o, G' a = some o → G a = some o ∨ H a = none ∨ Own σ δ a
section
variable {K : PySem.W.Frag} {G G' G'' H H' H'' : Hp} {σ σ' σ'' : SS} {δ δ' δ'' : List Sl}
theorem Stp.refl : Stp σ δ G H σ δ G H := ⟨fun _ _ e n => ⟨fun _ => e, n⟩, fun _ e => e, Same.refl _, fun _ _ e => .inl e⟩
theorem Stp.trans (a : Stp σ δ G H σ' δ' G' H') (b : Stp σ' δ' G' H' σ'' δ'' G'' H'') : Stp σ δ G H σ'' δ'' G'' H'' :=
  ⟨fun c o e n => ⟨fun nv => (b.keep c o ((a.keep c o e n).1 nv) (a.keep c o e n).2).1 nv, by
    cases hc : H' c with
    | none => rw [a.dom c hc] at e; cases e
    | some u => exact (b.keep c u hc (a.keep c o e n).2).2⟩, fun c e => a.dom c (b.dom c e), a.same.trans b.same, fun c o e => by
    rcases b.grow c o e with h | h | h
    · exact a.grow c o h
    · exact .inr (.inl (a.dom c h))
    · by_cases ho : Own σ δ c
      · exact .inr (.inr ho)
      · cases hc : H c with
        | none => exact .inr (.inl rfl)
        | some u => exact absurd h (a.keep c u hc ho).2⟩
theorem getD_some {α : Type} {o : Option (Option α)} {v : α} (h : o.getD none = some v) : o = some (some v) := by
  cases o with
  | none => cases h
  | some x => exact congrArg some h
theorem Rel.im (R : Rel K G H σ δ) {i : Nat} {d : PyData} (e : δ[i]? = some (.im d)) : ∃ v, σ[i]? = some (some v) ∧ Rp K G v d := by
  obtain ⟨v, h1, h2⟩ := R.slot i _ e
  exact ⟨v, getD_some h1, h2⟩
theorem Rel.bx (R : Rel K G H σ δ) {i : Nat} {t : Bt} {ds : List PyData} (e : δ[i]? = some (.bx t ds)) : ∃ p ws, σ[i]? = some (some (.ref p)) ∧ Bx H p t ws ∧ G p = none ∧ RpAll K G ws ds := by
  obtain ⟨p, ws, h1, h2⟩ := R.slot i _ e
  exact ⟨p, ws, getD_some h1, h2⟩
theorem Bx.at {p : Addr} {t : Bt} {ws : List V} (h : Bx H p t ws) : ∃ o, H p = some o ∧ ¬ VolO o ∧ ∀ H' : Hp, H' p = some o → Bx H' p t ws := by
  cases t with
  | l => exact ⟨_, h, volL, fun _ e => e⟩
  | o fs => obtain ⟨dx, h⟩ := h; exact ⟨_, h, (fun ⟨_, e⟩ => nomatch e), fun _ e => ⟨dx, e⟩⟩
  | d ks => exact ⟨_, h, (fun ⟨_, e⟩ => nomatch e), fun _ e => e⟩
theorem Bx.not {p : Addr} {t : Bt} {ws : List V} (h : Bx H p t ws) : H p ≠ none := by
  obtain ⟨o, e, _⟩ := h.at
  rw [e]; exact fun z => nomatch z
theorem Bx.upd {p a : Addr} {t : Bt} {ws : List V} {o : HO} (h : Bx H p t ws) (n : p ≠ a) : Bx (upd H a o) p t ws := by
  obtain ⟨u, e, _, k⟩ := h.at
  exact k _ (by rw [upd_ne n]; exact e)
/-- it may be changed -/
def Chg (H : Hp) (a : Addr) : Prop := ∀ o, H a = some o → Soft Memo.C o
theorem Bx.chg {p : Addr} {t : Bt} {ws : List V} (h : Bx H p t ws) : Chg H p := fun o e => by
  cases t with
  | l => exact .inl ⟨ws, by have h : H p = some (.lst ws) := h; rw [e] at h; cases h; rfl⟩
  | o fs => obtain ⟨dx, h⟩ := h; rw [e] at h; cases h; exact .inr (.inl ⟨_, _, rfl⟩)
  | d ks => exact .inr (.inr ⟨_, by have h : H p = some (.dK _) := h; rw [e] at h; cases h; rfl⟩)
theorem Rel.ow (R : Rel K G H σ δ) {i : Nat} {ds : List PyData} (e : δ[i]? = some (.bx .l ds)) : ∃ p ws, σ[i]? = some (some (.ref p)) ∧ H p = some (.lst ws) ∧ G p = none ∧ RpAll K G ws ds := by
  obtain ⟨p, ws, h1, h2⟩ := R.slot i _ e
  exact ⟨p, ws, getD_some h1, h2⟩
theorem Rel.fz (R : Rel K G H σ δ) {i : Nat} {ds : List PyData} (e : δ[i]? = some (.fz ds)) : ∃ p ws, σ[i]? = some (some (.ref p)) ∧ SqL K G p ws ∧ RpAll K G ws ds := by
  obtain ⟨p, ws, h1, h2⟩ := R.slot i _ e
  exact ⟨p, ws, getD_some h1, h2⟩
theorem Rel.raw (R : Rel K G H σ δ) {i : Nat} {v : V} (e : δ[i]? = some (.raw v)) : σ[i]? = some (some v) := getD_some (R.slot i _ e)
theorem Rel.gOwn (R : Rel K G H σ δ) {a : Addr} (h : Own σ δ a) : G a = none ∧ ∃ t ws, Bx H a t ws := by
  obtain ⟨i, t, ds, e1, e2⟩ := h
  obtain ⟨p, ws, h1, h2, h3, _⟩ := R.bx e2
  rw [e1] at h1; cases h1
  exact ⟨h3, t, ws, h2⟩
theorem Rel.freeOwn (R : Rel K G H σ δ) {a : Addr} (h : H a = none) : ¬ Own σ δ a := fun z => by
  obtain ⟨_, t, ws, e⟩ := R.gOwn z
  exact e.not h
theorem gfree (s : Same G H) {a : Addr} (h : H a = none) : G a = none := s.free h
theorem same_upd_new {a : Addr} {o : HO} (h : H a = none) : Same H (upd H a o) := fun b u e => by
  rw [upd_ne (ne_of_none e h)]; exact e
/-- what is neither a list nor one's own object stays -/
def Stay (H H' : Hp) : Prop := ∀ a o, H a = some o → ¬ Soft Memo.C o → H' a = some o
theorem stay_refl {H : Hp} : Stay H H := fun _ _ e _ => e
theorem stay_new {H : Hp} {a : Addr} {o : HO} (n : H a = none) : Stay H (upd H a o) := fun b u e _ => by rw [upd_ne (ne_of_none e n)]; exact e
theorem stay_chg {H : Hp} {a : Addr} {o : HO} (n : Chg H a) : Stay H (upd H a o) := fun b u e ns => by
  have : b ≠ a := fun z => by
    rw [z] at e
    exact ns (n u e)
  rw [upd_ne this]; exact e
theorem own_lst (R : Rel K G H σ δ) {a : Addr} {o : HO} (e : H a = some o) (ns : ¬ Soft Memo.C o) : ¬ Own σ δ a := fun z => by
  obtain ⟨_, t, ws, b⟩ := R.gOwn z
  exact ns (b.chg o e)
theorem SlotOk.same {s : Sl} {o : Option V} (h : SlotOk K G H o s) (sg : Same G G') (k : ∀ p t ws ds, s = .bx t ds → Bx H p t ws → G p = none → o = some (.ref p) → Bx H' p t ws ∧ G' p = none) (km : ∀ x p, s = .mo x → o = some (.ref p) → Memo.M G H p x → Memo.M G' H' p x) : SlotOk K G' H' o s := by
  cases s with
  | no => trivial
  | im d => obtain ⟨v, e, r⟩ := h; exact ⟨v, e, r.same sg⟩
  | bx t ds =>
    obtain ⟨p, ws, e, h1, h2, r⟩ := h
    obtain ⟨k1, k2⟩ := k p t ws ds rfl h1 h2 e
    exact ⟨p, ws, e, k1, k2, r.same sg⟩
  | fz ds => obtain ⟨p, ws, e, q, r⟩ := h; exact ⟨p, ws, e, Same.seq sg q, r.same sg⟩
  | raw v => exact h
  | mo x => obtain ⟨p, e, m⟩ := h; exact ⟨p, e, km x p rfl e m⟩
theorem soft_ext {C : Addr} {φ : Heap → Prop} : ¬ Soft C (.ext φ) := by rintro (⟨_, z⟩ | ⟨_, _, z⟩ | ⟨_, z⟩) <;> cases z
theorem gn_refl {G H : Hp} : Gn G H G := fun _ _ _ e => e
theorem gn_share {G H : Hp} {a : Addr} {o : HO} (h : H a = some o) (hv : ¬ VolO o) : Gn G H (upd G a o) := fun b φ hb hg => by
  have : b ≠ a := fun z => by rw [z, h] at hb; cases hb; exact hv ⟨φ, rfl⟩
  rw [upd_ne this]; exact hg
theorem gn_stp (R : Rel K G H σ δ) (st : Stp σ δ G H σ' δ' G' H') : Gn G H G' := fun a φ hb hg => by
  cases hx : G' a with
  | none => rfl
  | some u =>
    rcases st.grow a u hx with z | z | z
    · rw [hg] at z; cases z
    · rw [hb] at z; cases z
    · exact absurd z (own_lst R hb soft_ext)
theorem mSt {G G' H H' : Hp} (sg : Same G G') (gn : Gn G H G') (s : Stay H H') {s0 : Sl} {o : Option V} : ∀ (x : Inf) (p : Addr), s0 = .mo x → o = some (.ref p) → Memo.M G H p x → Memo.M G' H' p x := fun _ _ _ _ m => Memo.mst m sg gn s
theorem jG {G G' H : Hp} (h : Memo.J G H) (sg : Same G G') : Memo.J G' H := Memo.stab h sg fun _ _ e _ => e
theorem jN {G H : Hp} {a : Addr} {o : HO} (h : Memo.J G H) (n : H a = none) : Memo.J G (upd H a o) := Memo.stab h (Same.refl _) fun b u e _ => by rw [upd_ne (ne_of_none e n)]; exact e
theorem jC {G H : Hp} {a : Addr} {o : HO} (h : Memo.J G H) (n : Chg H a) : Memo.J G (upd H a o) := Memo.stab h (Same.refl _) fun b u e ns => by
  have : b ≠ a := fun z => by
    rw [z] at e
    exact ns (n u e)
  rw [upd_ne this]; exact e
theorem jL {G H : Hp} {a : Addr} {o : HO} {ws : List V} (h : Memo.J G H) (n : H a = some (.lst ws)) : Memo.J G (upd H a o) := jC h fun u e => by rw [n] at e; cases e; exact .inl ⟨_, rfl⟩
/-- a new object, not shared -/
theorem Rel.new (R : Rel K G H σ δ) {a : Addr} {o : HO} (h : H a = none) : Rel K G (upd H a o) σ δ :=
  ⟨R.sub.trans (same_upd_new h), R.len, fun i s e => (R.slot i s e).same (Same.refl _) (fun p t ws ds _ h1 h2 _ => ⟨h1.upd fun z => h1.not (z ▸ h), h2⟩) (mSt (Same.refl _) gn_refl (stay_new h)), R.inj, jN R.inv h⟩
theorem Stp.new {a : Addr} {o : HO} (h : H a = none) : Stp σ δ G H σ δ G (upd H a o) :=
  ⟨fun b u e n => ⟨fun _ => by rw [upd_ne (ne_of_none e h)]; exact e, n⟩, fun b e => by
    by_cases hb : b = a
    · rw [hb]; exact h
    · rw [upd_ne hb] at e; exact e, Same.refl _, fun _ _ e => .inl e⟩
/-- .. and shared -/
theorem Stp.share {G0 H0 : Hp} {σ0 : SS} {δ0 : List Sl} (st : Stp σ0 δ0 G0 H0 σ δ G H) {a : Addr} {o : HO} (h0 : H0 a = none) (hg : G a = none) : Stp σ0 δ0 G0 H0 σ δ (upd G a o) H :=
  ⟨st.keep, st.dom, st.same.trans (same_upd_new hg), fun b u e => by
    by_cases hb : b = a
    · rw [hb]; exact .inr (.inl h0)
    · rw [upd_ne hb] at e; exact st.grow b u e⟩
/-- an object that is nobody's own becomes shared -/
theorem Rel.share (R : Rel K G H σ δ) {a : Addr} {o : HO} (h : H a = some o) (hn : ¬ Own σ δ a) (hg : G a = none) (hv : ¬ VolO o := by rintro ⟨_, z⟩; cases z) : Rel K (upd G a o) H σ δ ∧ Same G (upd G a o) := by
  have sg : Same G (upd G a o) := same_upd_new hg
  refine ⟨⟨fun b u e => ?_, R.len, fun i s e => ?_, R.inj, jG R.inv sg⟩, sg⟩
  · by_cases hb : b = a
    · subst hb; rw [upd_same] at e; cases e; exact h
    · rw [upd_ne hb] at e; exact R.sub _ _ e
  · cases s with
    | no => trivial
    | im d => obtain ⟨v, e1, r⟩ := R.slot i _ e; exact ⟨v, e1, r.same sg⟩
    | bx t ds =>
      obtain ⟨p, ws, e1, h1, h2, r⟩ := R.slot i _ e
      refine ⟨p, ws, e1, h1, ?_, r.same sg⟩
      have : p ≠ a := fun z => hn ⟨i, t, ds, by rw [← z]; exact getD_some e1, e⟩
      rw [upd_ne this]; exact h2
    | fz ds => obtain ⟨p, ws, e1, q, r⟩ := R.slot i _ e; exact ⟨p, ws, e1, Same.seq sg q, r.same sg⟩
    | raw v => exact R.slot i _ e
    | mo x => obtain ⟨p, e1, m⟩ := R.slot i _ e; exact ⟨p, e1, Memo.mst m sg (gn_share h hv) stay_refl⟩
/-- a new shared object -/
theorem Rel.newS (R : Rel K G H σ δ) {a : Addr} {o : HO} (h : H a = none) (hv : ¬ VolO o := by rintro ⟨_, z⟩; cases z) : Rel K (upd G a o) (upd H a o) σ δ ∧ Same G (upd G a o) := by
  have R1 : Rel K G (upd H a o) σ δ := R.new h
  exact R1.share upd_same (fun z => R.freeOwn h z) (gfree R.sub h) hv
/-- a slot is stored -/
theorem Rel.set (R : Rel K G H σ δ) {i : Nat} {v : V} {s : Sl} (h : SlotOk K G H (some v) s) (hn : ∀ p t ds, s = .bx t ds → v = .ref p → ¬ Own σ δ p) : Rel K G H (σ.set i (some v)) (δ.set i s) := by
  refine ⟨R.sub, by simpa using R.len, fun j t e => ?_, fun a b p tt uu ds es h1 h2 h3 h4 => ?_, R.inv⟩
  · by_cases hj : j = i
    · subst hj
      have hl : j < δ.length := by
        have := (List.getElem?_eq_some_iff.mp e).1
        simpa using this
      rw [List.getElem?_set_self hl] at e; cases e
      rw [List.getElem?_set_self (by rw [R.len]; exact hl)]
      exact h
    · rw [List.getElem?_set_ne (Ne.symm hj)] at e ⊢
      exact R.slot j t e
  · by_cases ha : a = i <;> by_cases hb : b = i
    · rw [ha, hb]
    · exfalso
      rw [List.getElem?_set_ne (Ne.symm hb)] at h3 h4
      subst ha
      have hl : a < δ.length := by
        have := (List.getElem?_eq_some_iff.mp h2).1
        simpa using this
      rw [List.getElem?_set_self hl] at h2
      rw [List.getElem?_set_self (by rw [R.len]; exact hl)] at h1
      cases h2; cases h1
      exact hn p tt ds rfl rfl ⟨b, uu, es, h3, h4⟩
    · exfalso
      rw [List.getElem?_set_ne (Ne.symm ha)] at h1 h2
      subst hb
      have hl : b < δ.length := by
        have := (List.getElem?_eq_some_iff.mp h4).1
        simpa using this
      rw [List.getElem?_set_self hl] at h4
      rw [List.getElem?_set_self (by rw [R.len]; exact hl)] at h3
      cases h4; cases h3
      exact hn p uu es rfl rfl ⟨a, tt, ds, h1, h2⟩
    · rw [List.getElem?_set_ne (Ne.symm ha)] at h1 h2
      rw [List.getElem?_set_ne (Ne.symm hb)] at h3 h4
      exact R.inj a b p tt uu ds es h1 h2 h3 h4
/-- the slot of a list of its own is only shared from now on -/
theorem Rel.freeze (R : Rel K G H σ δ) {i : Nat} {ds : List PyData} (e : δ[i]? = some (.bx .l ds)) :
    ∃ p ws, σ[i]? = some (some (.ref p)) ∧ H p = some (.lst ws) ∧ Rel K (upd G p (.lst ws)) H σ (δ.set i (.im (.list ds))) ∧ Same G (upd G p (.lst ws)) ∧ Rp K (upd G p (.lst ws)) (.ref p) (.list ds) ∧ Stp σ δ G H σ (δ.set i (.im (.list ds))) (upd G p (.lst ws)) H := by
  obtain ⟨p, ws, e1, h1, h2, r⟩ := R.ow e
  have sg : Same G (upd G p (.lst ws)) := same_upd_new h2
  have hl : i < δ.length := (List.getElem?_eq_some_iff.mp e).1
  have hO : ∀ a, Own σ (δ.set i (.im (.list ds))) a → Own σ δ a ∧ a ≠ p := by
    rintro a ⟨j, t, es, q1, q2⟩
    by_cases hj : j = i
    · subst hj; rw [List.getElem?_set_self hl] at q2; cases q2
    · rw [List.getElem?_set_ne (Ne.symm hj)] at q2
      refine ⟨⟨j, t, es, q1, q2⟩, fun z => ?_⟩
      rw [z] at q1
      exact hj (R.inj j i p t .l es ds q1 q2 e1 e)
  have rp : Rp K (upd G p (.lst ws)) (.ref p) (.list ds) := .lst upd_same (r.same sg)
  refine ⟨p, ws, e1, h1, ⟨fun b u q => ?_, by simpa using R.len, fun j s q => ?_, fun a b c tt uu d1 d2 q1 q2 q3 q4 => ?_, jG R.inv sg⟩, sg, rp, ⟨fun a o q n => ⟨fun _ => q, fun z => n (hO a z).1⟩, fun a q => q, sg, fun a o q => ?_⟩⟩
  · by_cases hb : b = p
    · subst hb; rw [upd_same] at q; cases q; exact h1
    · rw [upd_ne hb] at q; exact R.sub _ _ q
  · by_cases hj : j = i
    · subst hj
      rw [List.getElem?_set_self hl] at q; cases q
      exact ⟨.ref p, by rw [e1]; rfl, rp⟩
    · rw [List.getElem?_set_ne (Ne.symm hj)] at q
      cases s with
      | no => trivial
      | im d => obtain ⟨v, e2, r2⟩ := R.slot j _ q; exact ⟨v, e2, r2.same sg⟩
      | bx t es =>
        obtain ⟨p2, ws2, e2, k1, k2, r2⟩ := R.slot j _ q
        refine ⟨p2, ws2, e2, k1, ?_, r2.same sg⟩
        have : p2 ≠ p := fun z => hj (R.inj j i p t .l es ds (by rw [← z]; exact getD_some e2) q e1 e)
        rw [upd_ne this]; exact k2
      | fz es => obtain ⟨p2, ws2, e2, k1, r2⟩ := R.slot j _ q; exact ⟨p2, ws2, e2, Same.seq sg k1, r2.same sg⟩
      | raw v => exact R.slot j _ q
      | mo x => obtain ⟨p2, e2, m⟩ := R.slot j _ q; exact ⟨p2, e2, Memo.mst m sg (gn_share h1 volL) stay_refl⟩
  · have ne : ∀ {x : Nat} {t : Bt} {es : List PyData}, (δ.set i (.im (.list ds)))[x]? = some (.bx t es) → δ[x]? = some (.bx t es) := fun {x t es} z => by
      by_cases hx : x = i
      · subst hx; rw [List.getElem?_set_self hl] at z; cases z
      · rw [List.getElem?_set_ne (Ne.symm hx)] at z; exact z
    exact R.inj a b c tt uu d1 d2 q1 (ne q2) q3 (ne q4)
  · by_cases ha : a = p
    · rw [ha]; exact .inr (.inr ⟨i, .l, ds, e1, e⟩)
    · rw [upd_ne ha] at q; exact .inl q
/-- one's own thing is written -/
theorem Rel.writeB (R : Rel K G H σ δ) {i : Nat} {t t' : Bt} {ds es : List PyData} {p : Addr} {ws : List V} {o : HO} (e : δ[i]? = some (.bx t ds)) (e1 : σ[i]? = some (some (.ref p))) (hb : Bx (upd H p o) p t' ws) (r : RpAll K G ws es) :
    Rel K G (upd H p o) σ (δ.set i (.bx t' es)) ∧ Stp σ δ G H σ (δ.set i (.bx t' es)) G (upd H p o) := by
  have hl : i < δ.length := (List.getElem?_eq_some_iff.mp e).1
  obtain ⟨p', ws', e1', h1, h2, _⟩ := R.bx e
  rw [e1] at e1'; cases e1'
  have hO : ∀ a, Own σ (δ.set i (.bx t' es)) a → Own σ δ a := by
    rintro a ⟨j, u, d2, q1, q2⟩
    by_cases hj : j = i
    · subst hj; exact ⟨j, t, ds, q1, e⟩
    · rw [List.getElem?_set_ne (Ne.symm hj)] at q2
      exact ⟨j, u, d2, q1, q2⟩
  refine ⟨⟨fun b u q => ?_, by simpa using R.len, fun j s q => ?_, fun a b c tt uu d1 d2 q1 q2 q3 q4 => ?_, jC R.inv h1.chg⟩, ⟨fun a o q n => ⟨fun _ => ?_, fun z => n (hO a z)⟩, fun a q => ?_, Same.refl _, fun _ _ q => .inl q⟩⟩
  · have : b ≠ p := fun z => by rw [z, h2] at q; cases q
    rw [upd_ne this]; exact R.sub _ _ q
  · by_cases hj : j = i
    · subst hj
      rw [List.getElem?_set_self hl] at q; cases q
      exact ⟨p, ws, by rw [e1]; rfl, hb, h2, r⟩
    · rw [List.getElem?_set_ne (Ne.symm hj)] at q
      refine (R.slot j s q).same (Same.refl _) (fun p2 u w2 d2 hs k1 k2 k3 => ⟨?_, k2⟩) (mSt (Same.refl _) gn_refl (stay_chg h1.chg))
      subst hs
      have : p2 ≠ p := fun z => hj (R.inj j i p u t d2 ds (by rw [← z]; exact getD_some k3) q e1 e)
      exact k1.upd this
  · have ne : ∀ {x : Nat} {u : Bt} {d3 : List PyData}, (δ.set i (.bx t' es))[x]? = some (.bx u d3) → ∃ u4 d4, δ[x]? = some (.bx u4 d4) := fun {x u d3} z => by
      by_cases hx : x = i
      · subst hx; exact ⟨_, _, e⟩
      · rw [List.getElem?_set_ne (Ne.symm hx)] at z; exact ⟨_, _, z⟩
    obtain ⟨_, _, q2'⟩ := ne q2
    obtain ⟨_, _, q4'⟩ := ne q4
    exact R.inj a b c _ _ _ _ q1 q2' q3 q4'
  · have : a ≠ p := fun z => n ⟨i, t, ds, by rw [z]; exact e1, e⟩
    rw [upd_ne this]; exact q
  · by_cases z : a = p
    · rw [z, upd_same] at q; cases q
    · rw [upd_ne z] at q; exact q
/-- a list of its own is written -/
theorem Rel.write (R : Rel K G H σ δ) {i : Nat} {ds es : List PyData} {p : Addr} {ws : List V} (e : δ[i]? = some (.bx .l ds)) (e1 : σ[i]? = some (some (.ref p))) (r : RpAll K G ws es) :
    Rel K G (upd H p (.lst ws)) σ (δ.set i (.bx .l es)) ∧ Stp σ δ G H σ (δ.set i (.bx .l es)) G (upd H p (.lst ws)) := R.writeB e e1 (show Bx _ p .l ws from upd_same) r
end
end CK
namespace CK
open PySem PySem.Spec PyProof.Rows L2
variable [Memo]
/-- what an expression makes of the slots -/
abbrev Ex := List Sl → Option (Sl × List Sl)
/-- a value as shared data -/
def Sl.sh : Sl → Option PyData
  | .im d => some d
  | .bx .l ds => some (.list ds)
  | _ => none
/-- .. or whatever else may be handed on -/
def Sl.arg : Sl → Option Sl
  | .im d => some (.im d)
  | .bx .l ds => some (.im (.list ds))
  | .raw v => some (.raw v)
  | .fz ds => some (.fz ds)
  | _ => none
/-- how a result lies: Hs the heap ahead -/
def RV (K : PySem.W.Frag) (G H Hs : Hp) (σ : SS) (δ : List Sl) (v : V) : Sl → Prop
  | .no => False
  | .im d => Rp K G v d
  | .bx t ds => ∃ p ws, v = .ref p ∧ Bx H p t ws ∧ G p = none ∧ ¬ Own σ δ p ∧ Hs p = none ∧ RpAll K G ws ds
  | .fz ds => ∃ p ws, v = .ref p ∧ SqL K G p ws ∧ RpAll K G ws ds
  | .raw u => v = u
  | .mo _ => False
/-- the reading of an expression -/
def tD (K : PySem.W.Frag) (F : Ex) : TE := fun σ H Q => ∃ (G : Hp) (δ : List Sl) (r : Sl) (δ' : List Sl), Rel K G H σ δ ∧ F δ = some (r, δ') ∧
  ∀ (v : V) (G' H' : Hp), Rel K G' H' σ δ' → Stp σ δ G H σ δ' G' H' → RV K G' H' H σ δ' v r → Q v H'
/-- the judgement -/
abbrev DE (X : Cx) (e : Expr) (F : Ex) : Prop := PE X e (tD X.K F)
theorem PE.by {X : Cx} {e : Expr} {t t' : TE} (h : PE X e t) (w : ∀ σ H Q, t' σ H Q → t σ H Q) : PE X e t' := ⟨fun pins s σ H Q I q => h.run pins s σ H Q I (w σ H Q q)⟩
section
variable {K : PySem.W.Frag} {G G' H H' Hs : Hp} {σ : SS} {δ δ' : List Sl}
/-- a result becomes shared data -/
theorem RV.shared {G0 : Hp} {δ0 : List Sl} {r : Sl} {d : PyData} {v : V} (R : Rel K G H σ δ) (st : Stp σ δ0 G0 Hs σ δ G H) (h : RV K G H Hs σ δ v r) (e : r.sh = some d) :
    ∃ G', Rel K G' H σ δ ∧ Stp σ δ0 G0 Hs σ δ G' H ∧ Same G G' ∧ Rp K G' v d := by
  cases r with
  | no => cases e
  | im x => cases e; exact ⟨G, R, st, Same.refl _, h⟩
  | bx t ds =>
    cases t with
    | o fs => cases e
    | d ks => cases e
    | l =>
    cases e
    obtain ⟨p, ws, rfl, h1, h2, h3, h4, r⟩ := h
    obtain ⟨R', sg⟩ := R.share h1 h3 h2
    exact ⟨_, R', st.share h4 h2, sg, .lst upd_same (r.same sg)⟩
  | fz ds => cases e
  | raw u => cases e
  | mo x => cases e
theorem RV.ahead {H1 : Hp} {σ0 : SS} {δ0 : List Sl} {r : Sl} {v : V} (h : RV K G H H1 σ δ v r) {G0 G1 : Hp} (st : Stp σ0 δ0 G0 Hs σ0 δ' G1 H1) : RV K G H Hs σ δ v r := by
  cases r with
  | bx t ds =>
    obtain ⟨p, ws, h1, h2, h3, h4, h5, h6⟩ := h
    exact ⟨p, ws, h1, h2, h3, h4, st.dom p h5, h6⟩
  | no => exact h
  | im d => exact h
  | fz d => exact h
  | raw d => exact h
  | mo x => exact h
/-- what is handed on -/
def AV (K : PySem.W.Frag) (G : Hp) (v : V) : Sl → Prop
  | .im d => Rp K G v d
  | .fz ds => ∃ p ws, v = .ref p ∧ SqL K G p ws ∧ RpAll K G ws ds
  | .raw u => v = u
  | _ => False
theorem AV.same {s : Sl} {v : V} (sg : Same G G') (h : AV K G v s) : AV K G' v s := by
  cases s with
  | no => exact h
  | im d => exact Rp.same sg h
  | bx t d => exact h
  | fz d => obtain ⟨p, ws, e, q, r⟩ := h; exact ⟨p, ws, e, Same.seq sg q, r.same sg⟩
  | raw u => exact h
  | mo x => exact h
theorem RV.argd {G0 : Hp} {δ0 : List Sl} {r a : Sl} {v : V} (R : Rel K G H σ δ) (st : Stp σ δ0 G0 Hs σ δ G H) (h : RV K G H Hs σ δ v r) (e : r.arg = some a) :
    ∃ G', Rel K G' H σ δ ∧ Stp σ δ0 G0 Hs σ δ G' H ∧ Same G G' ∧ AV K G' v a := by
  cases r with
  | no => cases e
  | im x => cases e; exact ⟨G, R, st, Same.refl _, h⟩
  | bx t ds =>
    cases t with
    | o fs => cases e
    | d ks => cases e
    | l =>
    cases e
    obtain ⟨G', R', st', sg, q⟩ := RV.shared (d := .list ds) R st (show RV K G H Hs σ δ v (.bx .l ds) from h) rfl
    exact ⟨G', R', st', sg, q⟩
  | fz ds => cases e; exact ⟨G, R, st, Same.refl _, h⟩
  | raw u => cases e; exact ⟨G, R, st, Same.refl _, h⟩
  | mo x => cases e
end
/-- a name: what is its own becomes shared -/
def dN (i : Nat) : Ex := fun δ => match δ[i]? with
  | some (.im d) => some (.im d, δ)
  | some (.bx .l ds) => some (.im (.list ds), δ.set i (.im (.list ds)))
  | some (.fz ds) => some (.fz ds, δ)
  | some (.raw v) => some (.raw v, δ)
  | _ => none
def dC (d : PyData) : Ex := fun δ => some (.im d, δ)
def dRaw (v : V) : Ex := fun δ => some (.raw v, δ)
section
variable {X : Cx}
theorem de_name (i : Nat) {x : Str} {pos : Pos} (hN : X.N[i]? = some x := by rfl) (hv : Vis X.env.scope x := by first | exact Or.inl rfl | exact Or.inr (Or.inl rfl) | exact Or.inr (Or.inr rfl)) (hd : (x == ("__debug__" : Str)) = false := by decide)
    (hcd : (x == ("__classdict__" : Str)) = false := by decide) : DE X (.Name x pos) (dN i) := by
  refine PE.by (pe_var hN hv hd hcd) fun σ H Q h => ?_
  obtain ⟨G, δ, r, δ', R, e, q⟩ := h
  unfold dN at e
  split at e
  · rename_i d hd
    cases e
    obtain ⟨v, e1, r1⟩ := R.im hd
    exact ⟨v, e1, q v G H R Stp.refl r1⟩
  · rename_i ds hd
    cases e
    obtain ⟨p, ws, e1, h1, R', sg, rp, st⟩ := R.freeze hd
    exact ⟨_, e1, q _ _ H R' st rp⟩
  · rename_i ds hd
    cases e
    obtain ⟨p, ws, e1, h1, r1⟩ := R.fz hd
    exact ⟨_, e1, q _ G H R Stp.refl ⟨p, ws, rfl, h1, r1⟩⟩
  · rename_i v hd
    cases e
    exact ⟨v, R.raw hd, q v G H R Stp.refl rfl⟩
  · cases e
theorem de_c {e : Expr} {v : V} {d : PyData} (h : PE X e (tC v)) (r : ∀ G, Rp X.K G v d) : DE X e (dC d) := by
  refine PE.by h fun σ H Q h => ?_
  obtain ⟨G, δ, r1, δ', R, e, q⟩ := h
  cases e
  exact q v G H R Stp.refl (r G)
theorem de_int {i j pos} : DE X (.Constant (.int i) j pos) (dC (.int i)) := de_c pe_int fun _ => .int i
theorem de_bl {i j pos} : DE X (.Constant (.bool i) j pos) (dC (.bool i)) := de_c pe_bl fun _ => .bl i
theorem de_non {j pos} : DE X (.Constant .none j pos) (dC .none) := de_c pe_non fun _ => .non
theorem de_str {i j pos} : DE X (.Constant (.str i) j pos) (dC (.str i)) := de_c pe_str fun _ => .str i
/-- a constant of the module -/
theorem de_glob {x : Str} {v : V} {d : PyData} {u : Value} {pos : Pos} (hg : Gl X x) (hm : X.mg x = some u) (r : RelV v u) (rd : ∀ G, Rp X.K G v d) (hd : (x == ("__debug__" : Str)) = false := by decide) : DE X (.Name x pos) (dC d) :=
  de_c (pe_glob hg hm r hd) rd
end
inductive Od where
  | nm (i : Nat)
  | ex (F : Ex)
/-- a name's data, read -/
def rdN (δ : List Sl) (i : Nat) : Option PyData := match δ[i]? with
  | some (.im d) => some d
  | some (.bx .l ds) => some (.list ds)
  | _ => none
/-- how an operand lies: shared data, or a list that is read -/
def RT (K : PySem.W.Frag) (G H : Hp) (v : V) (d : PyData) : Prop := Rp K G v d ∨ ∃ p ws ds, v = .ref p ∧ d = .list ds ∧ H p = some (.lst ws) ∧ RpAll K G ws ds
theorem RT.same {K : PySem.W.Frag} {G G' H H' : Hp} {v : V} {d : PyData} (sg : Same G G') (sh : Same H H') (h : RT K G H v d) : RT K G' H' v d := by
  rcases h with h | ⟨p, ws, ds, e1, e2, q, r⟩
  · exact .inl (h.same sg)
  · exact .inr ⟨p, ws, ds, e1, e2, sh _ _ q, r.same sg⟩
/-- the first part of an operand's work: what is reckoned; a name waits -/
def Od.fst : Od → List Sl → Option (Option PyData × List Sl)
  | .nm i, δ => (rdN δ i).bind fun _ => some (none, δ)
  | .ex F, δ => (F δ).bind fun x => x.1.sh.bind fun d => some (some d, x.2)
/-- the last part -/
def Od.snd (o : Od) (p : Option PyData) (δ : List Sl) : Option PyData := match o, p with
  | .nm i, _ => rdN δ i
  | .ex _, some d => some d
  | .ex _, none => none
/-- the operand's own reading -/
def tO (K : PySem.W.Frag) : Od → TE
  | .nm i => tVar i
  | .ex F => tD K F
structure DO (X : Cx) (e : Expr) (o : Od) : Prop where
  pe : PE X e (tO X.K o)
section
variable {X : Cx}
theorem do_nm (i : Nat) {x : Str} {pos : Pos} (hN : X.N[i]? = some x := by rfl) (hv : Vis X.env.scope x := by first | exact Or.inl rfl | exact Or.inr (Or.inl rfl) | exact Or.inr (Or.inr rfl)) (hd : (x == ("__debug__" : Str)) = false := by decide)
    (hcd : (x == ("__classdict__" : Str)) = false := by decide) : DO X (.Name x pos) (.nm i) := ⟨pe_var hN hv hd hcd⟩
theorem do_ex {e : Expr} {F : Ex} (h : DE X e F) : DO X e (.ex F) := ⟨h⟩
end
/-- what waits for a name: its value -/
def OV (K : PySem.W.Frag) (G : Hp) (σ : SS) (v : V) : Od → Option PyData → Prop
  | .nm i, _ => σ[i]? = some (some v)
  | .ex _, some d => Rp K G v d
  | .ex _, none => False
theorem OV.same {K : PySem.W.Frag} {G G' : Hp} {σ : SS} {v : V} {o : Od} {p : Option PyData} (sg : Same G G') (h : OV K G σ v o p) : OV K G' σ v o p := by
  cases o with
  | nm i => exact h
  | ex F => cases p with | none => exact h | some d => exact Rp.same sg h
section
variable {K : PySem.W.Frag} {G H : Hp} {σ : SS} {δ δ' : List Sl}
theorem OV.rt {v : V} {o : Od} {p : Option PyData} {d : PyData} (R : Rel K G H σ δ) (h : OV K G σ v o p) (e : o.snd p δ = some d) : RT K G H v d := by
  cases o with
  | ex F => cases p with
    | none => cases e
    | some x => cases e; exact .inl h
  | nm i =>
    have e' : rdN δ i = some d := by cases p <;> exact e
    have h' : σ[i]? = some (some v) := by cases p <;> exact h
    unfold rdN at e'
    split at e'
    · rename_i x hx
      cases e'
      obtain ⟨u, e1, r1⟩ := R.im hx
      rw [h'] at e1; cases e1
      exact .inl r1
    · rename_i ds hx
      cases e'
      obtain ⟨p, ws, e1, h1, h2, r1⟩ := R.ow hx
      rw [h'] at e1; cases e1
      exact .inr ⟨p, ws, ds, rfl, rfl, h1, r1⟩
    · cases e'
theorem nm_val {i : Nat} {d : PyData} (R : Rel K G H σ δ) (e : rdN δ i = some d) : ∃ v, σ[i]? = some (some v) := by
  unfold rdN at e
  split at e
  · rename_i x hx; obtain ⟨v, e1, _⟩ := R.im hx; exact ⟨v, e1⟩
  · rename_i x hx; obtain ⟨p, ws, e1, _⟩ := R.ow hx; exact ⟨_, e1⟩
  · cases e
/-- an operand's first part runs -/
theorem tO_run {o : Od} {p : Option PyData} {Q : VK} (R : Rel K G H σ δ) (e : o.fst δ = some (p, δ'))
    (q : ∀ (v : V) (G' H' : Hp), Rel K G' H' σ δ' → Stp σ δ G H σ δ' G' H' → OV K G' σ v o p → Q v H') : tO K o σ H Q := by
  cases o with
  | nm i =>
    obtain ⟨d, e0, e⟩ := Option.bind_eq_some_iff.mp e
    cases e
    obtain ⟨v, e1⟩ := nm_val R e0
    exact ⟨v, e1, q v G H R Stp.refl e1⟩
  | ex F =>
    obtain ⟨⟨r, δ1⟩, h, e⟩ := Option.bind_eq_some_iff.mp (show (F δ).bind (fun x => x.1.sh.bind fun d => some (some d, x.2)) = some (p, δ') from e)
    obtain ⟨d, hs, e⟩ := Option.bind_eq_some_iff.mp e
    cases e
    refine ⟨G, δ, r, _, R, h, fun v G' H' R' st rv => ?_⟩
    obtain ⟨G2, R2, st2, _, rp⟩ := RV.shared R' st rv hs
    exact q v G2 H' R2 st2 rp
end
def dOp1 (f : PyData → Option Sl) (a : Od) : Ex := fun δ => (a.fst δ).bind fun x => (a.snd x.1 x.2).bind fun d => (f d).bind fun r => some (r, x.2)
def dOp2 (f : PyData → PyData → Option Sl) (a b : Od) : Ex := fun δ => (a.fst δ).bind fun x => (b.fst x.2).bind fun y => (a.snd x.1 y.2).bind fun d => (b.snd y.1 y.2).bind fun e => (f d e).bind fun r => some (r, y.2)
theorem bind_some_of {α β : Type} {o : Option α} {f : α → Option β} {b : β} (h : o.bind f = some b) : ∃ a, o = some a ∧ f a = some b := by
  cases o with
  | none => cases h
  | some a => exact ⟨a, rfl, h⟩
section
variable {K : PySem.W.Frag}
/-- what an operation makes of its values: enough for the reading -/
theorem od1 {f : PyData → Option Sl} {a : Od} {σ : SS} {H : Hp} {Q : VK} {T : V → Hp → Prop} (h : tD K (dOp1 f a) σ H Q)
    (go : ∀ (G H1 : Hp) (δ : List Sl) (v : V) (d : PyData) (r : Sl), Rel K G H1 σ δ → RT K G H1 v d → f d = some r → (∀ (u : V) (G' H' : Hp), Rel K G' H' σ δ → Stp σ δ G H1 σ δ G' H' → RV K G' H' H1 σ δ u r → Q u H') → T v H1) :
    tO K a σ H T := by
  obtain ⟨G, δ, r, δ', R, e, q⟩ := h
  obtain ⟨⟨p, δ1⟩, e1, e⟩ := bind_some_of e
  obtain ⟨d, e2, e⟩ := bind_some_of e
  obtain ⟨r', e3, e⟩ := bind_some_of e
  cases e
  refine tO_run R e1 fun v G' H' R' st ov => ?_
  refine go G' H' _ v d r R' (ov.rt R' e2) e3 fun u G2 H2 R2 st2 rv => ?_
  exact q u G2 H2 R2 (st.trans st2) (rv.ahead st)
theorem od2 {f : PyData → PyData → Option Sl} {a b : Od} {σ : SS} {H : Hp} {Q : VK} {T : V → V → Hp → Prop} (h : tD K (dOp2 f a b) σ H Q)
    (go : ∀ (G H1 : Hp) (δ : List Sl) (v w : V) (d e : PyData) (r : Sl), Rel K G H1 σ δ → RT K G H1 v d → RT K G H1 w e → f d e = some r → (∀ (u : V) (G' H' : Hp), Rel K G' H' σ δ → Stp σ δ G H1 σ δ G' H' → RV K G' H' H1 σ δ u r → Q u H') → T v w H1) :
    tO K a σ H fun v H1 => tO K b σ H1 fun w H2 => T v w H2 := by
  obtain ⟨G, δ, r, δ', R, e, q⟩ := h
  obtain ⟨⟨p, δ1⟩, e1, e⟩ := bind_some_of e
  obtain ⟨⟨p2, δ2⟩, e2, e⟩ := bind_some_of e
  obtain ⟨d, e3, e⟩ := bind_some_of e
  obtain ⟨d2, e4, e⟩ := bind_some_of e
  obtain ⟨r', e5, e⟩ := bind_some_of e
  cases e
  refine tO_run R e1 fun v G' H' R' st ov => ?_
  refine tO_run R' e2 fun w G2 H2 R2 st2 ov2 => ?_
  refine go G2 H2 _ v w d d2 r R2 ((ov.same st2.same).rt R2 e3) (ov2.rt R2 e4) e5 fun u G3 H3 R3 st3 rv => ?_
  exact q u G3 H3 R3 ((st.trans st2).trans st3) (rv.ahead (st.trans st2))
end
end CK
namespace CK
open PySem PySem.Spec PyProof.Rows L2
variable [Memo]
abbrev iD (i : Int) : Option Sl := some (.im (.int i))
abbrev bD (b : Bool) : Option Sl := some (.im (.bool b))
/-- a text, n times -/
def repS (n : Nat) (x : Str) : Str := ⟨(List.replicate n x.cps.toList).flatten.toArray⟩
theorem repS_fold (x : Str) : ∀ (k : Nat) (acc : List Nat), List.foldl (fun a b => a ++ b) acc.toArray (List.replicate k x.cps) = (acc ++ (List.replicate k x.cps.toList).flatten).toArray
  | 0, acc => by simp
  | k + 1, acc => by
    rw [List.replicate_succ, List.foldl_cons, show acc.toArray ++ x.cps = (acc ++ x.cps.toList).toArray by simp, repS_fold x k, List.replicate_succ, List.flatten_cons, List.append_assoc]
theorem repS_zero (x : Str) : repS 0 x = Str.empty := rfl
theorem repS_one (x : Str) : repS 1 x = x := by
  obtain ⟨a⟩ := x
  show Str.mk _ = Str.mk _
  congr 1
  simp
theorem repS_nil {x : Str} (h : x.length = 0) (n : Nat) : repS n x = x := by
  obtain ⟨a⟩ := x
  have : a.toList = [] := by simpa [Str.length] using h
  show Str.mk _ = Str.mk _
  congr 1
  show ((List.replicate n a.toList).flatten.toArray) = a
  rw [this]
  have : a = #[] := by simpa [Str.length] using h
  rw [this]
  induction n with
  | zero => rfl
  | succ n ih => rw [List.replicate_succ, List.flatten_cons]; simpa using ih
theorem op_repS {X : Cx} : OpR X (binaryOp .Mult) (fun x y H Q => ∃ a k, x = .str a ∧ y = .int k ∧ -(2 ^ 63) ≤ k ∧ k < 2 ^ 63 ∧ a.length * k.toNat ≤ sizeLine ∧ Q (.str (repS k.toNat a)) H) := by
  intro pins s σ H x y v u Q I rx ry h
  obtain ⟨a, k, rfl, rfl, h1, h2, hz, q⟩ := h
  obtain ⟨t, rfl⟩ := rx
  obtain ⟨t', rfl⟩ := ry
  refine P.mul_str (by rw [decide_eq_false (by omega), decide_eq_false (by omega)]; rfl) (fun e1 e2 => ?_) (fun _ _ => ?_) ?_
  · have e3 : (a.length : Int) * k ≤ sizeLine := by
      have : ((a.length * k.toNat : Nat) : Int) ≤ sizeLine := by exact_mod_cast hz
      rw [Int.natCast_mul, Int.toNat_of_nonneg (by omega)] at this
      exact this
    have e4 : (a.length : Int) ≤ (2 ^ 63 - 1) / k := by
      rw [Int.le_ediv_iff_mul_le (by omega)]
      have : (sizeLine : Int) ≤ 2 ^ 63 - 1 := by decide
      omega
    omega
  · unfold Builtin.Str.tooLong
    rw [decide_eq_false_iff_not]
    omega
  · have key : ∀ (w : Value) (s' : Shared) , True := fun _ _ => trivial
    by_cases e1 : k < 1
    · rw [if_pos e1]
      rw [show k.toNat = 0 by omega, repS_zero] at q
      exact ⟨by decide, .str Str.empty, H, I.tok _, ⟨_, rfl⟩, q⟩
    · rw [if_neg e1]
      by_cases e2 : (k == 1 || a.length == 0) = true
      · rw [if_pos e2]
        have e3 : repS k.toNat a = a := by
          rcases Bool.or_eq_true_iff.mp e2 with e | e
          · rw [show k.toNat = 1 by have := eq_of_beq e; omega, repS_one]
          · exact repS_nil (eq_of_beq e) _
        rw [e3] at q
        exact ⟨.str a, H, I, ⟨_, rfl⟩, q⟩
      · rw [if_neg e2]
        have e3 : (⟨(List.replicate k.toNat a.cps).foldl (· ++ ·) #[]⟩ : Str) = repS k.toNat a := by
          have := repS_fold a k.toNat []
          rw [List.nil_append] at this
          exact congrArg Str.mk this
        rw [e3]
        refine ⟨?_, .str (repS k.toNat a), H, I.tok _, ⟨_, rfl⟩, q⟩
        rw [← e3]
        exact fits_reps (by unfold Builtin.Str.tooLong; rw [decide_eq_false_iff_not]; omega)
/-- how many items or signs at most -/
abbrev LINE : Nat := 16777216
def addD : PyData → PyData → Option Sl
  | .int i, .int j => iD (i + j)
  | .str a, .str b => if a.length + b.length ≤ LINE then some (.im (.str (a ++ b))) else none
  | .list a, .list b => if a.length + b.length ≤ LINE then some (.bx .l (a ++ b)) else none
  | .tuple a, .tuple b => if a.length + b.length ≤ LINE then some (.im (.tuple (a ++ b))) else none
  | _, _ => none
def subD : PyData → PyData → Option Sl
  | .int i, .int j => iD (i - j)
  | _, _ => none
def mulD : PyData → PyData → Option Sl
  | .int i, .int j => if i.natAbs.log2 + j.natAbs.log2 < 1000000 then iD (i * j) else none
  | .list a, .int k => if -(2 ^ 63) ≤ k ∧ k < 2 ^ 63 ∧ a.length * k.toNat ≤ LINE then some (.bx .l (List.replicate k.toNat a).flatten) else none
  | .str a, .int k => if -(2 ^ 63) ≤ k ∧ k < 2 ^ 63 ∧ a.length * k.toNat ≤ LINE then some (.im (.str (repS k.toNat a))) else none
  | _, _ => none
def modD : PyData → PyData → Option Sl
  | .int i, .int j => if 0 < j then iD (i % j) else none
  | _, _ => none
def fdivD : PyData → PyData → Option Sl
  | .int i, .int j => if 0 < j ∧ j.natAbs.log2 < 9000 then iD (i / j) else none
  | _, _ => none
def powD : PyData → PyData → Option Sl
  | .int i, .int j => if 0 ≤ j ∧ (i.natAbs.log2 + 1 : Int) * j ≤ 2 ^ 27 then iD (i ^ j.toNat) else none
  | _, _ => none
def negD : PyData → Option Sl
  | .int i => iD (-i)
  | _ => none
section
variable {K : PySem.W.Frag} {G H : Hp} {v : V}
theorem RT.int {i : Int} (h : RT K G H v (.int i)) : v = .int i := by
  rcases h with h | ⟨_, _, _, _, e, _⟩
  · cases h; rfl
  · cases e
theorem RT.str {i : Str} (h : RT K G H v (.str i)) : v = .str i := by
  rcases h with h | ⟨_, _, _, _, e, _⟩
  · cases h; rfl
  · cases e
theorem RT.bl {i : Bool} (h : RT K G H v (.bool i)) : v = .bl i := by
  rcases h with h | ⟨_, _, _, _, e, _⟩
  · cases h; rfl
  · cases e
theorem RT.non (h : RT K G H v .none) : v = .non := by
  rcases h with h | ⟨_, _, _, _, e, _⟩
  · cases h; rfl
  · cases e
theorem RT.lst {ds : List PyData} (s : Same G H) (h : RT K G H v (.list ds)) : ∃ p ws, v = .ref p ∧ H p = some (.lst ws) ∧ RpAll K G ws ds := by
  rcases h with h | ⟨p, ws, ds', e1, e, q, r⟩
  · cases h with | lst q r => exact ⟨_, _, rfl, s _ _ q, r⟩
  · cases e; exact ⟨p, ws, e1, q, r⟩
theorem RT.tup {ds : List PyData} (s : Same G H) (h : RT K G H v (.tuple ds)) : ∃ p ws, v = .ref p ∧ SqT K H p ws ∧ RpAll K G ws ds := by
  rcases h with h | ⟨p, ws, ds', e1, e, q, r⟩
  · cases h with | tup q r => exact ⟨_, _, rfl, sqT_same s q, r⟩
  · cases e
theorem RT.dp {d : PyData} (s : Same G H) (h : RT K G H v d) (n : d.hasDict = false) : Dp K H v d := by
  rcases h with h | ⟨p, ws, ds', e1, e, q, r⟩
  · exact (h.same s).dp n
  · subst e; subst e1; exact .lst (SqL.of q) ((r.same s).dp (by simpa only [PyData.hasDict] using n))
end
/-- what is wanted behind an operation -/
abbrev Want (K : PySem.W.Frag) (G H : Hp) (σ : SS) (δ : List Sl) (r : Sl) (Q : VK) : Prop :=
  ∀ (u : V) (G' H' : Hp), Rel K G' H' σ δ → Stp σ δ G H σ δ G' H' → RV K G' H' H σ δ u r → Q u H'
section
variable {K : PySem.W.Frag} {G H : Hp} {σ : SS} {δ : List Sl} {Q : VK}
theorem Want.im {d : PyData} {u : V} (q : Want K G H σ δ (.im d) Q) (R : Rel K G H σ δ) (r : Rp K G u d) : Q u H := q u G H R Stp.refl r
theorem Want.int {i : Int} (q : Want K G H σ δ (.im (.int i)) Q) (R : Rel K G H σ δ) : Q (.int i) H := q.im R (.int i)
theorem Want.bl {i : Bool} (q : Want K G H σ δ (.im (.bool i)) Q) (R : Rel K G H σ δ) : Q (.bl i) H := q.im R (.bl i)
theorem Want.str {i : Str} (q : Want K G H σ δ (.im (.str i)) Q) (R : Rel K G H σ δ) : Q (.str i) H := q.im R (.str i)
theorem Want.ow {ds : List PyData} {ws : List V} (q : Want K G H σ δ (.bx .l ds) Q) (R : Rel K G H σ δ) (r : RpAll K G ws ds) : ∀ p, H p = none → Q (.ref p) (upd H p (.lst ws)) := fun p hp =>
  q (.ref p) G _ (R.new hp) (Stp.new hp) ⟨p, ws, rfl, upd_same, gfree R.sub hp, R.freeOwn hp, hp, r⟩
theorem Want.tup {ds : List PyData} {ws : List V} (q : Want K G H σ δ (.im (.tuple ds)) Q) (R : Rel K G H σ δ) (r : RpAll K G ws ds) : ∀ p, H p = none → Q (.ref p) (upd H p (.tup ws)) := fun p hp => by
  obtain ⟨R2, sg⟩ := R.newS (o := .tup ws) hp
  exact q (.ref p) _ _ R2 ((Stp.new (G := G) hp).share hp (gfree R.sub hp)) (.tup (SqT.of upd_same) (r.same sg))
end
section
variable {X : Cx} {a b : Expr} {oa ob : Od} {pos : Pos}
theorem de_op {op : Operator} {r : R2} {f : PyData → PyData → Option Sl} (ho : OpR X (binaryOp op) r)
    (hf : ∀ (G H : Hp) (σ : SS) (δ : List Sl) (Q : VK) (v w : V) (d e : PyData) (z : Sl), Rel X.K G H σ δ → RT X.K G H v d → RT X.K G H w e → f d e = some z → Want X.K G H σ δ z Q → r v w H Q)
    (ha : DO X a oa) (hb : DO X b ob) : DE X (.BinOp a op b pos) (dOp2 f oa ob) :=
  PE.by (pe_op ho ha.pe hb.pe) fun σ H Q h => od2 h fun G H1 δ v w d e z R r1 r2 e3 q => hf G H1 σ δ Q v w d e z R r1 r2 e3 q
theorem of_ite {c : Prop} [Decidable c] {α : Type} {x z : α} (h : (if c then some x else none) = some z) : c ∧ x = z := by
  by_cases hc : c
  · rw [if_pos hc] at h; exact ⟨hc, Option.some.inj h⟩
  · rw [if_neg hc] at h; cases h
theorem de_add (ha : DO X a oa) (hb : DO X b ob) : DE X (.BinOp a .Add b pos) (dOp2 addD oa ob) := by
  refine de_op (OpR.or op_add (OpR.or op_add_str (OpR.or op_cat op_catA))) (fun G H σ δ Q v w d e z R r1 r2 h q => ?_) ha hb
  unfold addD at h
  split at h
  · cases h; exact .inl ⟨_, _, r1.int, r2.int, q.int R⟩
  · obtain ⟨hc, rfl⟩ := of_ite h
    exact .inr (.inl ⟨_, _, r1.str, r2.str, hc, q.str R⟩)
  · obtain ⟨hc, rfl⟩ := of_ite h
    obtain ⟨p, ws, e1, h1, s1⟩ := r1.lst R.sub
    obtain ⟨p2, ws2, e2, h2, s2⟩ := r2.lst R.sub
    exact .inr (.inr (.inl ⟨p, p2, ws, ws2, e1, e2, h1, h2, by rw [s1.length, s2.length]; exact hc, q.ow R (s1.append s2)⟩))
  · obtain ⟨hc, rfl⟩ := of_ite h
    obtain ⟨p, ws, rfl, h1, s1⟩ := r1.tup R.sub
    obtain ⟨p2, ws2, rfl, h2, s2⟩ := r2.tup R.sub
    refine .inr (.inr (.inr ⟨p, p2, ws, ws2, rfl, rfl, h1, h2, by rw [s1.length, s2.length]; exact hc, fun e => ?_, fun e1 e => ?_, fun e1 e2 => ?_⟩))
    · subst e; cases s1
      rcases r2 with r2 | ⟨_, _, _, _, e, _⟩
      · exact q.im R r2
      · cases e
    · subst e; cases s2
      rw [List.append_nil] at q
      rcases r1 with r1 | ⟨_, _, _, _, e, _⟩
      · exact q.im R r1
      · cases e
    · exact q.tup R (s1.append s2)
  · cases h
theorem de_sub (ha : DO X a oa) (hb : DO X b ob) : DE X (.BinOp a .Sub b pos) (dOp2 subD oa ob) := by
  refine de_op op_sub (fun G H σ δ Q v w d e z R r1 r2 h q => ?_) ha hb
  unfold subD at h
  split at h
  · cases h; exact ⟨_, _, r1.int, r2.int, q.int R⟩
  · cases h
theorem de_mul (ha : DO X a oa) (hb : DO X b ob) : DE X (.BinOp a .Mult b pos) (dOp2 mulD oa ob) := by
  refine de_op (OpR.or op_mulW (OpR.or op_rep op_repS)) (fun G H σ δ Q v w d e z R r1 r2 h q => ?_) ha hb
  unfold mulD at h
  split at h
  · obtain ⟨hc, rfl⟩ := of_ite h
    exact .inl ⟨_, _, r1.int, r2.int, hc, q.int R⟩
  · obtain ⟨hc, rfl⟩ := of_ite h
    obtain ⟨p, ws, e1, h1, s1⟩ := r1.lst R.sub
    exact .inr (.inl ⟨p, _, ws, e1, r2.int, h1, hc.1, hc.2.1, by rw [s1.length]; exact hc.2.2, q.ow R (s1.rep _)⟩)
  · obtain ⟨hc, rfl⟩ := of_ite h
    exact .inr (.inr ⟨_, _, r1.str, r2.int, hc.1, hc.2.1, hc.2.2, q.str R⟩)
  · cases h
theorem de_mod (ha : DO X a oa) (hb : DO X b ob) : DE X (.BinOp a .Mod b pos) (dOp2 modD oa ob) := by
  refine de_op op_mod (fun G H σ δ Q v w d e z R r1 r2 h q => ?_) ha hb
  unfold modD at h
  split at h
  · obtain ⟨hc, rfl⟩ := of_ite h
    exact ⟨_, _, r1.int, r2.int, hc, q.int R⟩
  · cases h
theorem de_fdiv (ha : DO X a oa) (hb : DO X b ob) : DE X (.BinOp a .FloorDiv b pos) (dOp2 fdivD oa ob) := by
  refine de_op op_fdivW (fun G H σ δ Q v w d e z R r1 r2 h q => ?_) ha hb
  unfold fdivD at h
  split at h
  · obtain ⟨hc, rfl⟩ := of_ite h
    exact ⟨_, _, r1.int, r2.int, hc, q.int R⟩
  · cases h
theorem intBits_le (i : Int) : (Builtin.Int.intBits i : Int) ≤ i.natAbs.log2 + 1 := by
  unfold Builtin.Int.intBits
  split <;> omega
theorem op_powX : OpR X (binaryOp .Pow) (rI (fun i j => 0 ≤ j ∧ (i.natAbs.log2 + 1 : Int) * j ≤ 2 ^ 27) fun i j => .int (i ^ j.toNat)) := opI fun i j _ _ _ _ _ hc q =>
  pow_int hc.1 (Int.le_trans (Int.mul_le_mul_of_nonneg_right (intBits_le i) hc.1) hc.2) q
theorem de_pow (ha : DO X a oa) (hb : DO X b ob) : DE X (.BinOp a .Pow b pos) (dOp2 powD oa ob) := by
  refine de_op op_powX (fun G H σ δ Q v w d e z R r1 r2 h q => ?_) ha hb
  unfold powD at h
  split at h
  · obtain ⟨hc, rfl⟩ := of_ite h
    exact ⟨_, _, r1.int, r2.int, hc, q.int R⟩
  · cases h
theorem de_neg (ha : DO X a oa) : DE X (.UnaryOp .USub a pos) (dOp1 negD oa) := by
  refine PE.by (pe_un un_neg ha.pe) fun σ H Q h => od1 h fun G H1 δ v d z R r1 e3 q => ?_
  unfold negD at e3
  split at e3
  · cases e3; exact ⟨_, r1.int, Want.int q R⟩
  · cases e3
end
def eqD : PyData → PyData → Option Bool
  | .int i, .int j => some (decide (i = j))
  | .str i, .str j => some (decide (i = j))
  | .bool i, .bool j => some (decide (i = j))
  | .none, .none => some true
  | .int _, .none => some false
  | .none, .int _ => some false
  | d, e => if SeqAt.shaped d = true ∧ SeqAt.shaped e = true then some (PyData.eqv d e) else none
def cmpI (p : Int → Int → Bool) : PyData → PyData → Option Bool
  | .int i, .int j => some (p i j)
  | _, _ => none
def ltD := cmpI fun i j => decide (i < j)
def leD := cmpI fun i j => decide (i ≤ j)
def gtD := cmpI fun i j => decide (j < i)
def geD := cmpI fun i j => decide (j ≤ i)
def isD : PyData → PyData → Option Bool
  | .none, .none => some true
  | .int _, .none => some false
  | .str _, .none => some false
  | .bool _, .none => some false
  | .list _, .none => some false
  | .tuple _, .none => some false
  | .bool a, .bool b => some (decide (a = b))
  | _, _ => none
def blD (f : PyData → PyData → Option Bool) (d e : PyData) : Option Sl := (f d e).bind fun b => bD b
def nbD (f : PyData → PyData → Option Bool) (d e : PyData) : Option Sl := (f d e).bind fun b => bD (!b)
section
variable {X : Cx} {a b : Expr} {oa ob : Od} {pos : Pos}
theorem de_cmp {op : CmpOp} {r : R2} {f : PyData → PyData → Option Sl} (ho : OpR X (compareOp op) r) (hm : behindInMarks op b = false)
    (hf : ∀ (G H : Hp) (σ : SS) (δ : List Sl) (Q : VK) (v w : V) (d e : PyData) (z : Sl), Rel X.K G H σ δ → RT X.K G H v d → RT X.K G H w e → f d e = some z → Want X.K G H σ δ z Q → r v w H Q)
    (ha : DO X a oa) (hb : DO X b ob) : DE X (.Compare a [op] [b] pos) (dOp2 f oa ob) :=
  PE.by (pe_cmpR ho ha.pe hb.pe hm) fun σ H Q h => od2 h fun G H1 δ v w d e z R r1 r2 e3 q => hf G H1 σ δ Q v w d e z R r1 r2 e3 q
theorem dcI {i j : Int} : decide (V.int i = V.int j) = decide (i = j) := decide_eq_decide.mpr ⟨fun e => V.int.inj e, fun e => congrArg _ e⟩
theorem dcS {i j : Str} : decide (V.str i = V.str j) = decide (i = j) := decide_eq_decide.mpr ⟨fun e => V.str.inj e, fun e => congrArg _ e⟩
theorem dcB {i j : Bool} : decide (V.bl i = V.bl j) = decide (i = j) := decide_eq_decide.mpr ⟨fun e => V.bl.inj e, fun e => congrArg _ e⟩
theorem eq_go {K : PySem.W.Frag} {G H : Hp} {σ : SS} {δ : List Sl} {Q : VK} {v w : V} {d e : PyData} {c : Bool} (R : Rel K G H σ δ) (r1 : RT K G H v d) (r2 : RT K G H w e) (h : eqD d e = some c) (q : Q (.bl c) H) : rEq v w H Q ∨ rEqD K v w H Q := by
  unfold eqD at h
  split at h
  · cases h; cases r1.int; cases r2.int
    exact .inl ⟨rfl, by rw [dcI]; exact q⟩
  · cases h; cases r1.str; cases r2.str
    exact .inl ⟨rfl, by rw [dcS]; exact q⟩
  · cases h; cases r1.bl; cases r2.bl
    exact .inl ⟨rfl, by rw [dcB]; exact q⟩
  · cases h; cases r1.non; cases r2.non
    exact .inl ⟨rfl, q⟩
  · cases h; cases r1.int; cases r2.non
    exact .inl ⟨rfl, q⟩
  · cases h; cases r1.non; cases r2.int
    exact .inl ⟨rfl, q⟩
  · obtain ⟨⟨h1, h2⟩, rfl⟩ := of_ite h
    exact .inr ⟨_, _, r1.dp R.sub (noDict_shaped h1), r2.dp R.sub (noDict_shaped h2), h1, h2, q⟩
theorem ne_go {K : PySem.W.Frag} {G H : Hp} {σ : SS} {δ : List Sl} {Q : VK} {v w : V} {d e : PyData} {c : Bool} (R : Rel K G H σ δ) (r1 : RT K G H v d) (r2 : RT K G H w e) (h : eqD d e = some c) (q : Q (.bl (!c)) H) : rNe v w H Q ∨ rNeD K v w H Q := by
  unfold eqD at h
  split at h
  · cases h; cases r1.int; cases r2.int
    exact .inl ⟨rfl, by rw [dcI]; exact q⟩
  · cases h; cases r1.str; cases r2.str
    exact .inl ⟨rfl, by rw [dcS]; exact q⟩
  · cases h; cases r1.bl; cases r2.bl
    exact .inl ⟨rfl, by rw [dcB]; exact q⟩
  · cases h; cases r1.non; cases r2.non
    exact .inl ⟨rfl, q⟩
  · cases h; cases r1.int; cases r2.non
    exact .inl ⟨rfl, q⟩
  · cases h; cases r1.non; cases r2.int
    exact .inl ⟨rfl, q⟩
  · obtain ⟨⟨h1, h2⟩, rfl⟩ := of_ite h
    exact .inr ⟨_, _, r1.dp R.sub (noDict_shaped h1), r2.dp R.sub (noDict_shaped h2), h1, h2, q⟩
theorem de_eq (hu : X.A.units + 64 < cLine) (ha : DO X a oa) (hb : DO X b ob) : DE X (.Compare a [.Eq] [b] pos) (dOp2 (blD eqD) oa ob) := by
  refine de_cmp (OpR.or op_eq (op_eqD hu)) (nomark _) (fun G H σ δ Q v w d e z R r1 r2 h q => ?_) ha hb
  obtain ⟨c, h', hz⟩ := bind_some_of h
  cases hz
  exact eq_go R r1 r2 h' (q.bl R)
end
end CK
namespace CK
open PySem PySem.Spec PyProof.Rows L2
variable [Memo]
abbrev Tt := List Sl → Option (Bool × List Sl)
def tT (K : PySem.W.Frag) (F : Tt) : TT := fun σ H Q => ∃ (G : Hp) (δ : List Sl) (b : Bool) (δ' : List Sl), Rel K G H σ δ ∧ F δ = some (b, δ') ∧
  ∀ (G' H' : Hp), Rel K G' H' σ δ' → Stp σ δ G H σ δ' G' H' → Q b H'
abbrev DT (X : Cx) (e : Expr) (F : Tt) : Prop := PT X e (tT X.K F)
abbrev DW (X : Cx) (e : Expr) (F : Tt) : Prop := PW X e (tT X.K F)
theorem PT.by {X : Cx} {e : Expr} {t t' : TT} (h : PT X e t) (w : ∀ σ H Q, t' σ H Q → t σ H Q) : PT X e t' := ⟨fun pins s σ H Q I q => h.run pins s σ H Q I (w σ H Q q)⟩
theorem PW.by {X : Cx} {e : Expr} {t t' : TT} (h : PW X e t) (w : ∀ σ H Q, t' σ H Q → t σ H Q) : PW X e t' := ⟨fun wh pins s σ H Q I q => h.run wh pins s σ H Q I (w σ H Q q)⟩
/-- a bool result -/
def Sl.bool : Sl → Option Bool
  | .im (.bool b) => some b
  | _ => none
def tOfE (F : Ex) : Tt := fun δ => (F δ).bind fun x => x.1.bool.bind fun b => some (b, x.2)
def tAndD (f g : Tt) : Tt := fun δ => (f δ).bind fun x => if x.1 = true then g x.2 else some (false, x.2)
def tOrD (f g : Tt) : Tt := fun δ => (f δ).bind fun x => if x.1 = true then some (true, x.2) else g x.2
def tNotD (f : Tt) : Tt := fun δ => (f δ).bind fun x => some (!x.1, x.2)
def eOfT (f : Tt) : Ex := fun δ => (f δ).bind fun x => some (.im (.bool x.1), x.2)
def dIfE (c : Tt) (f g : Ex) : Ex := fun δ => (c δ).bind fun x => if x.1 = true then f x.2 else g x.2
section
variable {K : PySem.W.Frag} {G H : Hp} {σ : SS} {δ : List Sl}
theorem tT_bind {f : Tt} {b : Bool} {δ1 : List Sl} {Q : Bool → Hp → Prop} (R : Rel K G H σ δ) (e : f δ = some (b, δ1)) (q : ∀ G' H', Rel K G' H' σ δ1 → Stp σ δ G H σ δ1 G' H' → Q b H') : tT K f σ H Q :=
  ⟨G, δ, b, δ1, R, e, q⟩
/-- what is wanted behind an expression, from the start -/
theorem tD_run {F : Ex} {r : Sl} {δ1 : List Sl} {Q : VK} (R : Rel K G H σ δ) (e : F δ = some (r, δ1)) (q : ∀ v G' H', Rel K G' H' σ δ1 → Stp σ δ G H σ δ1 G' H' → RV K G' H' H σ δ1 v r → Q v H') : tD K F σ H Q :=
  ⟨G, δ, r, δ1, R, e, q⟩
end
section
variable {X : Cx} {a b : Expr} {oa ob : Od} {pos : Pos} {tA tB : Tt} {rest : List Expr}
theorem bool_rv {K : PySem.W.Frag} {G H Hs : Hp} {σ : SS} {δ : List Sl} {v : V} {r : Sl} {b : Bool} (h : RV K G H Hs σ δ v r) (e : r.bool = some b) : v = .bl b := by
  unfold Sl.bool at e
  split at e
  · cases e
    cases h; rfl
  · cases e
/-- a comparison as a test -/
theorem dt_cmp {op : CmpOp} {r : R2} {f : PyData → PyData → Option Bool} (ho : OpR X (compareOp op) r) (hm : behindInMarks op b = false)
    (hf : ∀ (G H : Hp) (σ : SS) (δ : List Sl) (Q : VK) (v w : V) (d e : PyData) (z : Bool), Rel X.K G H σ δ → RT X.K G H v d → RT X.K G H w e → f d e = some z → Q (.bl z) H → r v w H Q)
    (ha : DO X a oa) (hb : DO X b ob) : DT X (.Compare a [op] [b] pos) (tOfE (dOp2 (blD f) oa ob)) := by
  refine PT.by (pt_cmpR ho ha.pe hb.pe hm) fun σ H Q h => ?_
  obtain ⟨G, δ, b, δ', R, e, q⟩ := h
  obtain ⟨⟨r1, δ1⟩, e1, e⟩ := bind_some_of e
  obtain ⟨b1, e2, e⟩ := bind_some_of e
  cases e
  refine od2 (tD_run R e1 (Q := fun v H1 => ∃ k, v = .bl k ∧ Q k H1) fun v G' H' R' st rv => ⟨b, bool_rv rv e2, q G' H' R' st⟩) fun G H1 δ v w d e z R r1 r2 e3 q => ?_
  obtain ⟨c, e4, hz⟩ := bind_some_of e3
  cases hz
  exact hf G H1 σ δ _ v w d e c R r1 r2 e4 (Want.bl q R)
theorem dt_cmpI {op : CmpOp} {p : Int → Int → Bool} (ho : OpR X (compareOp op) (rI0 fun i j => .bl (p i j))) (hm : behindInMarks op b = false) (ha : DO X a oa) (hb : DO X b ob) : DT X (.Compare a [op] [b] pos) (tOfE (dOp2 (blD (cmpI p)) oa ob)) := by
  refine dt_cmp ho hm (fun G H σ δ Q v w d e z R r1 r2 h q => ?_) ha hb
  unfold cmpI at h
  split at h
  · cases h; exact ⟨_, _, r1.int, r2.int, q⟩
  · cases h
theorem dt_lt (ha : DO X a oa) (hb : DO X b ob) : DT X (.Compare a [.Lt] [b] pos) (tOfE (dOp2 (blD ltD) oa ob)) := dt_cmpI op_lt (nomark _) ha hb
theorem dt_gt (ha : DO X a oa) (hb : DO X b ob) : DT X (.Compare a [.Gt] [b] pos) (tOfE (dOp2 (blD gtD) oa ob)) := dt_cmpI op_gt (nomark _) ha hb
theorem dt_ge (ha : DO X a oa) (hb : DO X b ob) : DT X (.Compare a [.GtE] [b] pos) (tOfE (dOp2 (blD geD) oa ob)) := dt_cmpI op_ge (nomark _) ha hb
def neD (d e : PyData) : Option Bool := (eqD d e).bind fun b => some (!b)
theorem dt_eq (hu : X.A.units + 64 < cLine) (ha : DO X a oa) (hb : DO X b ob) : DT X (.Compare a [.Eq] [b] pos) (tOfE (dOp2 (blD eqD) oa ob)) :=
  dt_cmp (OpR.or op_eq (op_eqD hu)) (nomark _) (fun G H σ δ Q v w d e z R r1 r2 h q => eq_go R r1 r2 h q) ha hb
theorem dt_ne (hu : X.A.units + 64 < cLine) (ha : DO X a oa) (hb : DO X b ob) : DT X (.Compare a [.NotEq] [b] pos) (tOfE (dOp2 (blD neD) oa ob)) :=
  dt_cmp (OpR.or op_ne (op_neD hu)) (nomark _) (fun G H σ δ Q v w d e z R r1 r2 h q => by
    obtain ⟨c, h', hz⟩ := bind_some_of h
    cases hz
    exact ne_go R r1 r2 h' q) ha hb
theorem isD_some {K : PySem.W.Frag} {G H : Hp} {v w : V} {d e : PyData} {z : Bool} (r1 : RT K G H v d) (r2 : RT K G H w e) (h : isD d e = some z) : (w = .non ∧ z = decide (v = .non)) ∨ ∃ a b, v = .bl a ∧ w = .bl b ∧ z = decide (a = b) := by
  have hl : ∀ {ds : List PyData}, RT K G H v (.list ds) → v ≠ .non := fun {ds} r => by
    rcases r with r | ⟨p, ws, ds, e1, _⟩
    · cases r; intro z; cases z
    · rw [e1]; intro z; cases z
  have ht : ∀ {ds : List PyData}, RT K G H v (.tuple ds) → v ≠ .non := fun {ds} r => by
    rcases r with r | ⟨p, ws, ds, e1, e2, _⟩
    · cases r; intro z; cases z
    · cases e2
  unfold isD at h
  split at h
  · cases h; exact .inl ⟨r2.non, by rw [r1.non]; rfl⟩
  · cases h; exact .inl ⟨r2.non, by rw [r1.int]; rfl⟩
  · cases h; exact .inl ⟨r2.non, by rw [r1.str]; rfl⟩
  · cases h; exact .inl ⟨r2.non, by rw [r1.bl]; rfl⟩
  · cases h; exact .inl ⟨r2.non, by rw [decide_eq_false (hl r1)]⟩
  · cases h; exact .inl ⟨r2.non, by rw [decide_eq_false (ht r1)]⟩
  · cases h; exact .inr ⟨_, _, r1.bl, r2.bl, rfl⟩
  · cases h
theorem dt_is (ha : DO X a oa) (hb : DO X b ob) : DT X (.Compare a [.Is] [b] pos) (tOfE (dOp2 (blD isD) oa ob)) :=
  dt_cmp (OpR.or op_isN op_is_bl) (nomark _) (fun G H σ δ Q v w d e z R r1 r2 h q => by
    rcases isD_some r1 r2 h with ⟨h1, rfl⟩ | ⟨x, y, h1, h2, rfl⟩
    · exact .inl ⟨h1, q⟩
    · exact .inr ⟨x, y, h1, h2, q⟩) ha hb
def isnD (d e : PyData) : Option Bool := (isD d e).bind fun b => some (!b)
theorem dt_isn (ha : DO X a oa) (hb : DO X b ob) : DT X (.Compare a [.IsNot] [b] pos) (tOfE (dOp2 (blD isnD) oa ob)) :=
  dt_cmp (OpR.or op_notN op_isnot_bl) (nomark _) (fun G H σ δ Q v w d e z R r1 r2 h q => by
    obtain ⟨c, h', hz⟩ := bind_some_of h
    cases hz
    rcases isD_some r1 r2 h' with ⟨h1, rfl⟩ | ⟨x, y, h1, h2, rfl⟩
    · exact .inl ⟨h1, q⟩
    · exact .inr ⟨x, y, h1, h2, q⟩) ha hb
theorem de_is (ha : DO X a oa) (hb : DO X b ob) : DE X (.Compare a [.Is] [b] pos) (dOp2 (blD isD) oa ob) := by
  refine de_cmp (OpR.or op_isN op_is_bl) (nomark _) (fun G H σ δ Q v w d e z R r1 r2 h q => ?_) ha hb
  obtain ⟨c, h', hz⟩ := bind_some_of h
  cases hz
  rcases isD_some r1 r2 h' with ⟨h1, rfl⟩ | ⟨x, y, h1, h2, rfl⟩
  · exact .inl ⟨h1, q.bl R⟩
  · exact .inr ⟨x, y, h1, h2, q.bl R⟩
/-- a value that is a bool, as a test -/
theorem dt_val {e : Expr} {F : Ex} (h : DE X e F) (he : ∀ whole, isTrue e X.env whole = (do let v ← whole; standAt e.pos; holding [v] (truthy v)) := by intro _; rfl) : DT X e (tOfE F) := by
  refine PT.by (pt_val h he) fun σ H Q h => ?_
  obtain ⟨G, δ, b, δ', R, e, q⟩ := h
  obtain ⟨⟨r1, δ1⟩, e1, e⟩ := bind_some_of e
  obtain ⟨b1, e2, e⟩ := bind_some_of e
  cases e
  exact tD_run R e1 fun v G' H' R' st rv => ⟨b, bool_rv rv e2, q G' H' R' st⟩
theorem dw_and1 (ha : DT X a tA) : DW X (.BoolOp .And [a] pos) tA := pw_and1 ha
theorem dw_or1 (ha : DT X a tA) : DW X (.BoolOp .Or [a] pos) tA := pw_or1 ha
theorem dw_and (ha : DT X a tA) (hb : DW X (.BoolOp .And (b :: rest) pos) tB) : DW X (.BoolOp .And (a :: b :: rest) pos) (tAndD tA tB) := by
  refine PW.by (pw_and ha hb) fun σ H Q h => ?_
  obtain ⟨G, δ, b, δ', R, e, q⟩ := h
  obtain ⟨⟨c, δ1⟩, e1, e⟩ := bind_some_of e
  refine tT_bind R e1 fun G1 H1 R1 st1 => ?_
  cases c with
  | true =>
    rw [if_pos rfl] at e ⊢
    exact tT_bind R1 e fun G2 H2 R2 st2 => q G2 H2 R2 (st1.trans st2)
  | false =>
    rw [if_neg Bool.false_ne_true] at e ⊢
    cases e
    exact q G1 H1 R1 st1
theorem dw_or (ha : DT X a tA) (hb : DW X (.BoolOp .Or (b :: rest) pos) tB) : DW X (.BoolOp .Or (a :: b :: rest) pos) (tOrD tA tB) := by
  refine PW.by (pw_or ha hb) fun σ H Q h => ?_
  obtain ⟨G, δ, b, δ', R, e, q⟩ := h
  obtain ⟨⟨c, δ1⟩, e1, e⟩ := bind_some_of e
  refine tT_bind R e1 fun G1 H1 R1 st1 => ?_
  cases c with
  | false =>
    rw [if_neg Bool.false_ne_true] at e ⊢
    exact tT_bind R1 e fun G2 H2 R2 st2 => q G2 H2 R2 (st1.trans st2)
  | true =>
    rw [if_pos rfl] at e ⊢
    cases e
    exact q G1 H1 R1 st1
theorem dt_w {e : Expr} (h : DW X e tA) : DT X e tA := h.pt
theorem dt_not (ha : DT X a tA) : DT X (.UnaryOp .Not a pos) (tNotD tA) := by
  refine PT.by (pt_not ha) fun σ H Q h => ?_
  obtain ⟨G, δ, b, δ', R, e, q⟩ := h
  obtain ⟨⟨c, δ1⟩, e1, e⟩ := bind_some_of e
  cases e
  exact tT_bind R e1 fun G1 H1 R1 st1 => q G1 H1 R1 st1
/-- and, or, not as values -/
def dAnd (f g : Ex) : Ex := fun δ => (f δ).bind fun x => x.1.bool.bind fun c => if c = true then g x.2 else some (.im (.bool false), x.2)
def dOr (f g : Ex) : Ex := fun δ => (f δ).bind fun x => x.1.bool.bind fun c => if c = true then some (.im (.bool true), x.2) else g x.2
def dNot (f : Ex) : Ex := fun δ => (f δ).bind fun x => x.1.bool.bind fun c => some (.im (.bool (!c)), x.2)
variable {fA fB : Ex}
theorem de_one {op} (h : DE X a fA) : DE X (.BoolOp op [a] pos) fA := pe_one h
theorem de_and (ha : DE X a fA) (hb : DE X (.BoolOp .And (b :: rest) pos) fB) : DE X (.BoolOp .And (a :: b :: rest) pos) (dAnd fA fB) := by
  refine PE.by (pe_and ha hb) fun σ H Q h => ?_
  obtain ⟨G, δ, r, δ', R, e, q⟩ := h
  obtain ⟨⟨r1, δ1⟩, e1, e⟩ := bind_some_of e
  obtain ⟨c, e2, e⟩ := bind_some_of e
  refine tD_run R e1 fun v G1 H1 R1 st1 rv => ⟨c, bool_rv rv e2, ?_⟩
  cases c with
  | true =>
    rw [if_pos rfl] at e ⊢
    exact tD_run R1 e fun u G2 H2 R2 st2 rv2 => q u G2 H2 R2 (st1.trans st2) (rv2.ahead st1)
  | false =>
    rw [if_neg Bool.false_ne_true] at e ⊢
    cases e
    exact q _ G1 H1 R1 st1 (.bl false)
theorem de_not (ha : DE X a fA) : DE X (.UnaryOp .Not a pos) (dNot fA) := by
  refine PE.by (pe_not ha) fun σ H Q h => ?_
  obtain ⟨G, δ, r, δ', R, e, q⟩ := h
  obtain ⟨⟨r1, δ1⟩, e1, e⟩ := bind_some_of e
  obtain ⟨c, e2, e⟩ := bind_some_of e
  cases e
  exact tD_run R e1 fun v G1 H1 R1 st1 rv => ⟨c, bool_rv rv e2, q _ G1 H1 R1 st1 (.bl _)⟩
theorem de_if {c : Expr} {fC : Tt} (hc : DT X c fC) (ha : DE X a fA) (hb : DE X b fB) : DE X (.IfExp c a b pos) (dIfE fC fA fB) := by
  refine PE.by (pe_ifExp hc ha hb) fun σ H Q h => ?_
  obtain ⟨G, δ, r, δ', R, e, q⟩ := h
  obtain ⟨⟨c, δ1⟩, e1, e⟩ := bind_some_of e
  refine tT_bind R e1 fun G1 H1 R1 st1 => ?_
  cases c with
  | false =>
    rw [if_neg Bool.false_ne_true] at e ⊢
    exact tD_run R1 e fun u G2 H2 R2 st2 rv2 => q u G2 H2 R2 (st1.trans st2) (rv2.ahead st1)
  | true =>
    rw [if_pos rfl] at e ⊢
    exact tD_run R1 e fun u G2 H2 R2 st2 rv2 => q u G2 H2 R2 (st1.trans st2) (rv2.ahead st1)
end
inductive Fl where
  | nx | bk | ct
  | rt (r : Sl)
abbrev Sm := List Sl → Option (Fl × List Sl)
/-- the pinned slots keep their values -/
def Pin (P : List Nat) (σ σ' : SS) : Prop := ∀ i ∈ P, σ'[i]? = σ[i]?
/-- how a result that is given back lies: a list of one's own may be given away -/
def RW (K : PySem.W.Frag) (G H Hs : Hp) (σ0 : SS) (δ0 : List Sl) (σ : SS) (δ : List Sl) (v : V) : Sl → Prop
  | .bx t ds => ∃ p ws, v = .ref p ∧ Bx H p t ws ∧ G p = none ∧ ¬ Own σ δ p ∧ (Hs p = none ∨ Own σ0 δ0 p) ∧ RpAll K G ws ds
  | r => RV K G H Hs σ δ v r
def endOf (K : PySem.W.Frag) (G H Hs : Hp) (σ0 : SS) (δ0 : List Sl) (σ : SS) (δ : List Sl) (D : Ends) : Fl → Prop
  | .nx => D.nx σ H
  | .bk => D.bk σ H
  | .ct => D.ct σ H
  | .rt r => ∀ v, RW K G H Hs σ0 δ0 σ δ v r → D.rt v H
theorem RV.give {K : PySem.W.Frag} {G H Hs : Hp} {σ0 : SS} {δ0 : List Sl} {σ : SS} {δ : List Sl} {v : V} {r : Sl} (h : RV K G H Hs σ δ v r) : RW K G H Hs σ0 δ0 σ δ v r := by
  cases r with
  | bx t ds =>
    obtain ⟨p, ws, h1, h2, h3, h4, h5, h6⟩ := h
    exact ⟨p, ws, h1, h2, h3, h4, .inl h5, h6⟩
  | no => exact h
  | im d => exact h
  | fz d => exact h
  | raw d => exact h
  | mo x => exact h
def tS (K : PySem.W.Frag) (P : List Nat) (S : Sm) : TS := fun D σ H => ∃ (G : Hp) (δ : List Sl) (fl : Fl) (δ' : List Sl), Rel K G H σ δ ∧ S δ = some (fl, δ') ∧
  ∀ (σ' : SS) (G' H' : Hp), Rel K G' H' σ' δ' → Stp σ δ G H σ' δ' G' H' → Pin P σ σ' → endOf K G' H' H σ δ σ' δ' D fl
theorem PS.by {X : Cx} {e : Stmt} {t t' : TS} (h : PS X e t) (w : ∀ D σ H, t' D σ H → t D σ H) : PS X e t' := ⟨fun pins s σ H D I q => h.run pins s σ H D I (w D σ H q)⟩
theorem PSs.by {X : Cx} {e : List Stmt} {t t' : TS} (h : PSs X e t) (w : ∀ D σ H, t' D σ H → t D σ H) : PSs X e t' := ⟨fun pins s σ H D I q => h.run pins s σ H D I (w D σ H q)⟩
abbrev DS (X : Cx) (P : List Nat) (e : Stmt) (S : Sm) : Prop := PS X e (tS X.K P S)
abbrev DSs (X : Cx) (P : List Nat) (e : List Stmt) (S : Sm) : Prop := PSs X e (tS X.K P S)
theorem Pin.refl {P : List Nat} {σ : SS} : Pin P σ σ := fun _ _ => rfl
theorem Pin.trans {P : List Nat} {σ σ' σ'' : SS} (a : Pin P σ σ') (b : Pin P σ' σ'') : Pin P σ σ'' := fun i h => (b i h).trans (a i h)
theorem Pin.set {P : List Nat} {σ : SS} {i : Nat} {v : Option V} (h : P.contains i = false) : Pin P σ (σ.set i v) := fun j hj => by
  have : i ≠ j := fun e => by
    subst e
    rw [List.contains_eq_mem] at h
    simp [hj] at h
  rw [List.getElem?_set_ne this]
def sSeq (S T : Sm) : Sm := fun δ => (S δ).bind fun x => match x.1 with
  | .nx => T x.2
  | f => some (f, x.2)
def sNext : Sm := fun δ => some (.nx, δ)
def sBrk : Sm := fun δ => some (.bk, δ)
def sCt : Sm := fun δ => some (.ct, δ)
def sStuck : Sm := fun _ => none
def sExpr (F : Ex) : Sm := fun δ => (F δ).bind fun x => some (.nx, x.2)
def sRet (F : Ex) : Sm := fun δ => (F δ).bind fun x => some (.rt x.1, x.2)
def sSet (i : Nat) (F : Ex) : Sm := fun δ => (F δ).bind fun x => some (.nx, x.2.set i x.1)
def sIf (c : Tt) (S T : Sm) : Sm := fun δ => (c δ).bind fun x => if x.1 = true then S x.2 else T x.2
section
variable {K : PySem.W.Frag} {P : List Nat} {G H : Hp} {σ : SS} {δ δ1 : List Sl}
theorem tS_run {S : Sm} {D : Ends} {fl : Fl} (R : Rel K G H σ δ) (e : S δ = some (fl, δ1)) (q : ∀ σ' G' H', Rel K G' H' σ' δ1 → Stp σ δ G H σ' δ1 G' H' → Pin P σ σ' → endOf K G' H' H σ δ σ' δ1 D fl) : tS K P S D σ H :=
  ⟨G, δ, fl, δ1, R, e, q⟩
/-- the end from further ahead -/
theorem endOf.ahead {D : Ends} {fl : Fl} {G0 H0 : Hp} {σ0 : SS} {δ0 : List Sl} {σ' : SS} {δ' : List Sl} {G' H' : Hp} (st : Stp σ0 δ0 G0 H0 σ δ G H) (h : endOf K G' H' H0 σ0 δ0 σ' δ' D fl) : endOf K G' H' H σ δ σ' δ' D fl := by
  cases fl with
  | rt r => exact fun v rv => h v (by
      cases r with
      | bx t ds =>
        obtain ⟨p, ws, h1, h2, h3, h4, h5, h6⟩ := rv
        refine ⟨p, ws, h1, h2, h3, h4, ?_, h6⟩
        rcases h5 with h5 | h5
        · exact .inl (st.dom p h5)
        · cases e : H0 p with
          | none => exact .inl rfl
          | some o => exact .inr (Classical.byContradiction fun n => (st.keep p o e n).2 h5)
      | no => exact rv
      | im d => exact rv
      | fz d => exact rv
      | raw d => exact rv
      | mo x => exact rv)
  | nx => exact h
  | bk => exact h
  | ct => exact h
/-- a value for a slot -/
theorem RV.slot {Hs : Hp} {v : V} {r : Sl} (h : RV K G H Hs σ δ v r) : SlotOk K G H (some v) r ∧ ∀ p t ds, r = .bx t ds → v = .ref p → ¬ Own σ δ p ∧ Hs p = none := by
  cases r with
  | no => exact False.elim h
  | im d => exact ⟨⟨v, rfl, h⟩, fun _ _ _ e => nomatch e⟩
  | bx t ds =>
    obtain ⟨p, ws, e1, h1, h2, h3, h4, r⟩ := h
    subst e1
    refine ⟨⟨p, ws, rfl, h1, h2, r⟩, fun q _ _ _ e => ?_⟩
    cases e
    exact ⟨h3, h4⟩
  | fz ds =>
    obtain ⟨p, ws, e1, q, r⟩ := h
    subst e1
    exact ⟨⟨p, ws, rfl, q, r⟩, fun _ _ _ e => nomatch e⟩
  | raw u => exact ⟨by rw [show v = u from h]; rfl, fun _ _ _ e => nomatch e⟩
  | mo x => exact False.elim h
theorem own_set {σ : SS} {δ : List Sl} {i : Nat} {v : V} {r : Sl} {a : Addr} (hl : σ.length = δ.length) (h : Own (σ.set i (some v)) (δ.set i r) a) : Own σ δ a ∨ (v = .ref a ∧ ∃ t ds, r = .bx t ds) := by
  obtain ⟨j, t, ds, e1, e2⟩ := h
  by_cases hj : j = i
  · subst hj
    have hl2 : j < δ.length := by
      have := (List.getElem?_eq_some_iff.mp e2).1
      simpa using this
    rw [List.getElem?_set_self hl2] at e2
    rw [List.getElem?_set_self (by rw [hl]; exact hl2)] at e1
    cases e1; cases e2
    exact .inr ⟨rfl, t, ds, rfl⟩
  · rw [List.getElem?_set_ne (Ne.symm hj)] at e1 e2
    exact .inl ⟨j, t, ds, e1, e2⟩
/-- behind a store of a result -/
theorem Stp.setR {G0 H0 : Hp} {σ0 : SS} {δ0 : List Sl} {i : Nat} {v : V} {r : Sl} (R : Rel K G H σ δ) (st : Stp σ0 δ0 G0 H0 σ δ G H) (hf : ∀ p t ds, r = .bx t ds → v = .ref p → H0 p = none) : Stp σ0 δ0 G0 H0 (σ.set i (some v)) (δ.set i r) G H :=
  ⟨fun a o e n => ⟨(st.keep a o e n).1, fun z => by
    rcases own_set R.len z with z | ⟨z, t, ds, e2⟩
    · exact (st.keep a o e n).2 z
    · rw [hf a t ds e2 z] at e
      cases e⟩, st.dom, st.same, st.grow⟩
end
section
variable {X : Cx} {P : List Nat} {pos : Pos} {s : Stmt} {ss : List Stmt} {S T : Sm} {e : Expr} {F : Ex}
theorem dss_nil : DSs X P [] sNext := PSs.by pss_nil fun D σ H h => by
  obtain ⟨G, δ, fl, δ', R, e, q⟩ := h
  cases e
  exact q σ G H R Stp.refl Pin.refl
theorem seq_go {K : PySem.W.Frag} {D : Ends} {σ : SS} {H : Hp} (h : tS K P (sSeq S T) D σ H) : tSeq (tS K P S) (tS K P T) D σ H := by
  obtain ⟨G, δ, fl, δ', R, e, q⟩ := h
  obtain ⟨⟨f1, δ1⟩, e1, e⟩ := bind_some_of e
  refine tS_run R e1 fun σ1 G1 H1 R1 st1 p1 => ?_
  cases f1 with
  | nx => exact tS_run R1 e fun σ2 G2 H2 R2 st2 p2 => (q σ2 G2 H2 R2 (st1.trans st2) (p1.trans p2)).ahead st1
  | bk => cases e; exact q σ1 G1 H1 R1 st1 p1
  | ct => cases e; exact q σ1 G1 H1 R1 st1 p1
  | rt r => cases e; exact q σ1 G1 H1 R1 st1 p1
theorem dss_cons (h1 : DS X P s S) (h2 : DSs X P ss T) : DSs X P (s :: ss) (sSeq S T) := PSs.by (pss_cons h1 h2) fun _ _ _ h => seq_go h
theorem dss_one (h1 : DS X P s S) : DSs X P [s] S := pss_one h1
/-- what is never come to -/
theorem ds_stuck : DS X P s sStuck := PS.by ps_never fun D σ H h => by
  obtain ⟨G, δ, fl, δ', R, e, q⟩ := h
  cases e
theorem ds_expr (h : DE X e F) (hs : swapsWith e none pos.line X.env = pure false := by rfl) : DS X P (.Expr e pos) (sExpr F) := PS.by (ps_expr h hs) fun D σ H h => by
  obtain ⟨G, δ, fl, δ', R, e, q⟩ := h
  obtain ⟨⟨r, δ1⟩, e1, e⟩ := bind_some_of e
  cases e
  exact tD_run R e1 fun v G' H' R' st rv => q σ G' H' R' st Pin.refl
theorem ds_ret (h : DE X e F) : DS X P (.Return (some e) pos) (sRet F) := PS.by (ps_ret h) fun D σ H h => by
  obtain ⟨G, δ, fl, δ', R, e, q⟩ := h
  obtain ⟨⟨r, δ1⟩, e1, e⟩ := bind_some_of e
  cases e
  exact tD_run R e1 fun v G' H' R' st rv => q σ G' H' R' st Pin.refl v rv.give
/-- a name's value is given back: a list of one's own is given away -/
def sRetV (i : Nat) : Sm := fun δ => match δ[i]? with
  | some (.bx t ds) => some (.rt (.bx t ds), δ.set i .no)
  | _ => sRet (dN i) δ
theorem own_drop {σ : SS} {δ : List Sl} {i : Nat} {a : Addr} (h : Own σ (δ.set i .no) a) : Own σ δ a ∧ ∃ j, j ≠ i ∧ σ[j]? = some (some (.ref a)) ∧ ∃ t ds, δ[j]? = some (.bx t ds) := by
  obtain ⟨j, t, ds, e1, e2⟩ := h
  by_cases hj : j = i
  · subst hj
    have hl : j < δ.length := by
      have := (List.getElem?_eq_some_iff.mp e2).1
      simpa using this
    rw [List.getElem?_set_self hl] at e2; cases e2
  · rw [List.getElem?_set_ne (Ne.symm hj)] at e2
    exact ⟨⟨j, t, ds, e1, e2⟩, j, hj, e1, t, ds, e2⟩
theorem Rel.drop {K : PySem.W.Frag} {G H : Hp} {σ : SS} {δ : List Sl} (R : Rel K G H σ δ) (i : Nat) : Rel K G H σ (δ.set i .no) := by
  refine ⟨R.sub, by simpa using R.len, fun j s e => ?_, fun a b p tt uu ds es h1 h2 h3 h4 => ?_, R.inv⟩
  · by_cases hj : j = i
    · subst hj
      have hl : j < δ.length := by
        have := (List.getElem?_eq_some_iff.mp e).1
        simpa using this
      rw [List.getElem?_set_self hl] at e; cases e
      trivial
    · rw [List.getElem?_set_ne (Ne.symm hj)] at e
      exact R.slot j s e
  · have k : ∀ {c : Nat} {t : Bt} {x : List PyData}, (δ.set i .no)[c]? = some (.bx t x) → δ[c]? = some (.bx t x) := fun {c t x} e => by
      by_cases hc : c = i
      · subst hc
        have hl : c < δ.length := by
          have := (List.getElem?_eq_some_iff.mp e).1
          simpa using this
        rw [List.getElem?_set_self hl] at e; cases e
      · rwa [List.getElem?_set_ne (Ne.symm hc)] at e
    exact R.inj a b p tt uu ds es h1 (k h2) h3 (k h4)
theorem ds_retV (i : Nat) {x : Str} {pos' : Pos} (hN : X.N[i]? = some x := by rfl) (hv : Vis X.env.scope x := by first | exact Or.inl rfl | exact Or.inr (Or.inl rfl) | exact Or.inr (Or.inr rfl)) (hd : (x == ("__debug__" : Str)) = false := by decide)
    (hcd : (x == ("__classdict__" : Str)) = false := by decide) : DS X P (.Return (some (.Name x pos')) pos) (sRetV i) := PS.by (ps_ret (pe_var hN hv hd hcd)) fun D σ H h => by
  obtain ⟨G, δ, fl, δ', R, e, q⟩ := h
  have key : ∀ {Q : VK}, (∃ r δ1, dN i δ = some (r, δ1) ∧ ∀ v G' H', Rel X.K G' H' σ δ1 → Stp σ δ G H σ δ1 G' H' → RV X.K G' H' H σ δ1 v r → Q v H') → ∃ v, σ[i]? = some (some v) ∧ Q v H := by
    rintro Q ⟨r, δ1, e, q⟩
    unfold dN at e
    split at e
    · rename_i d hd
      cases e
      obtain ⟨v, e1, r1⟩ := R.im hd
      exact ⟨v, e1, q v G H R Stp.refl r1⟩
    · rename_i ds hd
      cases e
      obtain ⟨p, ws, e1, h1, R', sg, rp, st⟩ := R.freeze hd
      exact ⟨_, e1, q _ _ H R' st rp⟩
    · rename_i ds hd
      cases e
      obtain ⟨p, ws, e1, h1, r1⟩ := R.fz hd
      exact ⟨_, e1, q _ G H R Stp.refl ⟨p, ws, rfl, h1, r1⟩⟩
    · rename_i v hd
      cases e
      exact ⟨v, R.raw hd, q v G H R Stp.refl rfl⟩
    · cases e
  unfold sRetV at e
  split at e
  · rename_i t ds hd
    cases e
    obtain ⟨p, ws, e1, h1, h2, r⟩ := R.bx hd
    refine ⟨_, e1, q σ G H (R.drop i) ⟨fun a o h n => ⟨fun _ => h, fun z => n (own_drop z).1⟩, fun _ h => h, Same.refl _, fun _ _ h => .inl h⟩ Pin.refl _ ⟨p, ws, rfl, h1, h2, fun z => ?_, .inr ⟨i, t, ds, e1, hd⟩, r⟩⟩
    obtain ⟨_, j, hj, k1, u, es, k2⟩ := own_drop z
    exact hj (R.inj j i p u t es ds k1 k2 e1 hd)
  · obtain ⟨⟨r, δ1⟩, e1, e⟩ := bind_some_of e
    cases e
    exact key ⟨r, δ1, e1, fun v G' H' R' st rv => q σ G' H' R' st Pin.refl v rv.give⟩
theorem ds_if {c : Expr} {a b : List Stmt} {C : Tt} (hc : DT X c C) (ha : DSs X P a S) (hb : DSs X P b T) : DS X P (.If c a b pos) (sIf C S T) := PS.by (ps_if hc ha hb) fun D σ H h => by
  obtain ⟨G, δ, fl, δ', R, e, q⟩ := h
  obtain ⟨⟨c, δ1⟩, e1, e⟩ := bind_some_of e
  refine tT_bind R e1 fun G1 H1 R1 st1 => ?_
  cases c with
  | true =>
    rw [if_pos rfl] at e ⊢
    exact tS_run R1 e fun σ2 G2 H2 R2 st2 p2 => (q σ2 G2 H2 R2 (st1.trans st2) p2).ahead st1
  | false =>
    rw [if_neg Bool.false_ne_true] at e ⊢
    exact tS_run R1 e fun σ2 G2 H2 R2 st2 p2 => (q σ2 G2 H2 R2 (st1.trans st2) p2).ahead st1
theorem set_go {K : PySem.W.Frag} {D : Ends} {σ : SS} {H : Hp} {i : Nat} (hp : P.contains i = false) (h : tS K P (sSet i F) D σ H) : tAsg (tD K F) (gName i) D σ H := by
  obtain ⟨G, δ, fl, δ', R, e, q⟩ := h
  obtain ⟨⟨r, δ1⟩, e1, e⟩ := bind_some_of e
  cases e
  refine tD_run R e1 fun v G' H' R' st rv => ?_
  obtain ⟨so, sn⟩ := rv.slot
  exact q _ G' H' (R'.set so fun p t ds e e2 => (sn p t ds e e2).1) (Stp.setR R' st fun p t ds e e2 => (sn p t ds e e2).2) (Pin.set hp)
theorem ds_set {i : Nat} {x : Str} {pos' : Pos} (hN : X.N.Nodup) (hi : X.N[i]? = some x) (hx : Loc X.env.scope x) (he : DE X e F) (hp : P.contains i = false := by rfl) (hs : swapsWith e (some (.Name x pos')) pos.line X.env = pure false := by rfl)
    (hf : X.fn x = true ∨ X.env.scope.names.lookup x = some .local := by first | exact .inl rfl | exact .inr rfl | assumption) : DS X P (.Assign [.Name x pos'] e pos) (sSet i F) :=
  PS.by (ps_set hN hi hx he hs hf) fun _ _ _ h => set_go hp h
end
end CK
namespace CK
open PySem PySem.Spec PyProof.Rows L2
variable [Memo]
/-- an argument: a slot whose list the callee may change, or a value -/
inductive Ag where
  | io (i : Nat)
  | ex (F : Ex)
/-- the values reckoned, from the left -/
def agE : List Ag → List Sl → Option (List (Option Sl) × List Sl)
  | [], δ => some ([], δ)
  | .io i :: r, δ => (match δ[i]? with | some (.bx _ _) => some () | some (.mo _) => some () | _ => none).bind fun _ => (agE r δ).bind fun x => some (none :: x.1, x.2)
  | .ex F :: r, δ => (F δ).bind fun x => x.1.arg.bind fun s => (agE r x.2).bind fun y => some (some s :: y.1, y.2)
/-- the slots of the callee's parameters -/
def agS : List Ag → List (Option Sl) → List Sl → Option (List Sl)
  | [], [], _ => some []
  | .io i :: r, none :: ps, δ => (match δ[i]? with | some (.bx t ds) => some (Sl.bx t ds) | some (.mo x) => some (Sl.mo x) | _ => none).bind fun s => (agS r ps δ).bind fun t => some (s :: t)
  | .ex _ :: r, some s :: ps, δ => (agS r ps δ).bind fun t => some (s :: t)
  | _, _, _ => none
/-- what comes back into the caller's slots -/
def agB : List Ag → List Sl → List Sl → List Sl
  | .io i :: r, s :: ss, δ => agB r ss (δ.set i s)
  | .ex _ :: r, _ :: ss, δ => agB r ss δ
  | _, _, δ => δ
def agI : List Ag → List Nat
  | [] => []
  | .io i :: r => i :: agI r
  | .ex _ :: r => agI r
/-- how the values lie -/
def AW (K : PySem.W.Frag) (G : Hp) (σ : SS) : List V → List Ag → List (Option Sl) → Prop
  | [], [], [] => True
  | v :: vs, .io i :: r, none :: ps => σ[i]? = some (some v) ∧ AW K G σ vs r ps
  | v :: vs, .ex _ :: r, some s :: ps => AV K G v s ∧ AW K G σ vs r ps
  | _, _, _ => False
theorem AW.same {K : PySem.W.Frag} {G G' : Hp} {σ : SS} (sg : Same G G') : ∀ {vs : List V} {as : List Ag} {ps : List (Option Sl)}, AW K G σ vs as ps → AW K G' σ vs as ps
  | [], [], [], _ => trivial
  | _ :: _, .io _ :: _, none :: _, h => ⟨h.1, AW.same sg h.2⟩
  | _ :: _, .ex _ :: _, some _ :: _, h => ⟨h.1.same sg, AW.same sg h.2⟩
/-- the reading of an argument list -/
def tAg (K : PySem.W.Frag) (as : List Ag) : TA := fun σ H Q => ∃ (G : Hp) (δ : List Sl) (ps : List (Option Sl)) (δ' : List Sl), Rel K G H σ δ ∧ agE as δ = some (ps, δ') ∧
  ∀ (vs : List V) (G' H' : Hp), Rel K G' H' σ δ' → Stp σ δ G H σ δ' G' H' → AW K G' σ vs as ps → Q vs H'
theorem PA.by {X : Cx} {es : List Expr} {t t' : TA} (h : PA X es t) (w : ∀ σ H Q, t' σ H Q → t σ H Q) : PA X es t' := ⟨fun pos pins s σ H Q I q => h.run pos pins s σ H Q I (w σ H Q q)⟩
abbrev DA (X : Cx) (es : List Expr) (as : List Ag) : Prop := PA X es (tAg X.K as)
section
variable {X : Cx} {e : Expr} {es : List Expr} {F : Ex} {as : List Ag}
theorem da_nil : DA X [] [] := PA.by pa_nil fun σ H Q h => by
  obtain ⟨G, δ, ps, δ', R, e, q⟩ := h
  cases e
  exact q [] G H R Stp.refl trivial
theorem da_ex (ha : DE X e F) (hr : DA X es as) (hs : starEach (e :: es) X.env = (false, eval e X.env) :: starEach es X.env := by rfl) : DA X (e :: es) (.ex F :: as) := PA.by (pa_cons ha hr hs) fun σ H Q h => by
  obtain ⟨G, δ, ps, δ', R, e, q⟩ := h
  obtain ⟨⟨r, δ1⟩, e1, e⟩ := bind_some_of e
  obtain ⟨s, e2, e⟩ := bind_some_of e
  obtain ⟨⟨ps1, δ2⟩, e3, e⟩ := bind_some_of e
  cases e
  refine tD_run R e1 fun v G1 H1 R1 st1 rv => ?_
  obtain ⟨G2, R2, st2, _, av⟩ := RV.argd R1 st1 rv e2
  exact ⟨G2, δ1, ps1, _, R2, e3, fun vs G3 H3 R3 st3 aw => q (v :: vs) G3 H3 R3 (st2.trans st3) ⟨av.same st3.same, aw⟩⟩
theorem da_io (i : Nat) {x : Str} {pos : Pos} (hr : DA X es as) (hN : X.N[i]? = some x := by rfl) (hv : Vis X.env.scope x := by first | exact Or.inl rfl | exact Or.inr (Or.inl rfl) | exact Or.inr (Or.inr rfl)) (hd : (x == ("__debug__" : Str)) = false := by decide)
    (hcd : (x == ("__classdict__" : Str)) = false := by decide) (hs : starEach (.Name x pos :: es) X.env = (false, eval (.Name x pos) X.env) :: starEach es X.env := by rfl) : DA X (.Name x pos :: es) (.io i :: as) := PA.by (pa_cons (pe_var hN hv hd hcd) hr hs) fun σ H Q h => by
  obtain ⟨G, δ, ps, δ', R, e, q⟩ := h
  obtain ⟨u, e0, e⟩ := bind_some_of e
  obtain ⟨⟨ps1, δ2⟩, e3, e⟩ := bind_some_of e
  cases e
  split at e0
  · rename_i t ds hd
    obtain ⟨p, ws, e1, _⟩ := R.bx hd
    exact ⟨_, e1, G, δ, ps1, _, R, e3, fun vs G3 H3 R3 st3 aw => q (_ :: vs) G3 H3 R3 st3 ⟨e1, aw⟩⟩
  · rename_i x hd
    obtain ⟨p, e1, _⟩ := R.slot i _ hd
    have e1 := getD_some e1
    exact ⟨_, e1, G, δ, ps1, _, R, e3, fun vs G3 H3 R3 st3 aw => q (_ :: vs) G3 H3 R3 st3 ⟨e1, aw⟩⟩
  · cases e0
end
/-- what a def makes of its parameters' slots -/
abbrev Fn := List Sl → Option (Sl × List Sl)
def spD (K : PySem.W.Frag) (n : Nat) (f : Fn) : Sp := fun vs H Q _ => vs.length = n ∧ ∃ (G : Hp) (as : List Sl) (r : Sl) (as' : List Sl), Rel K G H (vs.map some) as ∧ f as = some (r, as') ∧
  ∀ (v : V) (G' H' : Hp), Rel K G' H' (vs.map some) as' → Stp (vs.map some) as G H (vs.map some) as' G' H' → RV K G' H' H (vs.map some) as' v r → Q v H'
/-- which parameters come back: those pinned; no other is a list of its own -/
def back (P : List Nat) : Nat → List Sl → List Sl → Option (List Sl)
  | _, [], _ => some []
  | i, a :: as, d :: ds => if P.contains i = true then (back P (i + 1) as ds).bind fun r => some (d :: r) else
      (match a with | .no => none | .bx _ _ => none | .mo _ => none | a => some a).bind fun a => (back P (i + 1) as ds).bind fun r => some (a :: r)
  | _, _ :: _, [] => none
/-- a def by its body: m more slots behind the parameters -/
def isOw : Option Sl → Bool
  | some (.bx _ _) => true
  | some (.mo _) => true
  | _ => false
/-- a list that is given away is none of those that were lent -/
def okR (P : List Nat) (δ : List Sl) : Sl → Bool
  | .bx _ _ => P.all fun i => isOw δ[i]?
  | _ => true
def fnD (P : List Nat) (m : Nat) (S : Sm) : Fn := fun as => (S (as ++ List.replicate m .no)).bind fun x => (match x.1 with
      | .rt r => some r
      | .nx => some (.im .none)
      | _ => none).bind fun r => if okR P x.2 r = true then (back P 0 as x.2).bind fun b => some (r, b) else none
theorem back_own {P : List Nat} : ∀ {as ds b : List Sl} {i j : Nat} {t : Bt} {x : List PyData}, back P i as ds = some b → as[j]? = some (.bx t x) → P.contains (i + j) = true
  | [], ds, b, i, j, t, x, _, e => by simp at e
  | a :: as, [], b, i, j, t, x, h, _ => by cases h
  | a :: as, d :: ds, b, i, j, t, x, h, e => by
    unfold back at h
    by_cases hp : P.contains i = true
    · rw [if_pos hp] at h
      obtain ⟨r, e1, _⟩ := bind_some_of h
      cases j with
      | zero => exact hp
      | succ j =>
        have := back_own (j := j) (t := t) (x := x) e1 (by simpa using e)
        rwa [show i + 1 + j = i + (j + 1) by omega] at this
    · rw [if_neg hp] at h
      obtain ⟨a', e0, h⟩ := bind_some_of h
      obtain ⟨r, e1, _⟩ := bind_some_of h
      cases j with
      | zero =>
        have : a = .bx t x := by simpa using e
        subst this
        cases e0
      | succ j =>
        have := back_own (j := j) (t := t) (x := x) e1 (by simpa using e)
        rwa [show i + 1 + j = i + (j + 1) by omega] at this
theorem back_get {P : List Nat} : ∀ {as ds b : List Sl} {i : Nat}, back P i as ds = some b → b.length = as.length ∧ ∀ (j : Nat) (s : Sl), b[j]? = some s → (P.contains (i + j) = true ∧ ds[j]? = some s) ∨ (as[j]? = some s ∧ (∀ t x, s ≠ .bx t x) ∧ ∀ x, s ≠ .mo x)
  | [], ds, b, i, h => by
    cases h
    exact ⟨rfl, fun j s e => by simp at e⟩
  | a :: as, [], b, i, h => by cases h
  | a :: as, d :: ds, b, i, h => by
    unfold back at h
    by_cases hp : P.contains i = true
    · rw [if_pos hp] at h
      obtain ⟨r, e1, e⟩ := bind_some_of h
      cases e
      obtain ⟨hl, ih⟩ := back_get e1
      refine ⟨by simp [hl], fun j s e => ?_⟩
      cases j with
      | zero => cases e; exact .inl ⟨hp, rfl⟩
      | succ j =>
        have := ih j s e
        have e2 : i + 1 + j = i + (j + 1) := by omega
        rw [e2] at this
        exact this
    · rw [if_neg hp] at h
      obtain ⟨a', e0, h⟩ := bind_some_of h
      obtain ⟨r, e1, e⟩ := bind_some_of h
      cases e
      obtain ⟨hl, ih⟩ := back_get e1
      refine ⟨by simp [hl], fun j s e => ?_⟩
      cases j with
      | zero =>
        cases e
        refine .inr ?_
        cases a with
        | no => cases e0
        | bx t d => cases e0
        | im d => cases e0; exact ⟨rfl, (fun _ _ z => nomatch z), fun _ z => nomatch z⟩
        | fz d => cases e0; exact ⟨rfl, (fun _ _ z => nomatch z), fun _ z => nomatch z⟩
        | raw d => cases e0; exact ⟨rfl, (fun _ _ z => nomatch z), fun _ z => nomatch z⟩
        | mo d => cases e0
      | succ j =>
        have := ih j s e
        have e2 : i + 1 + j = i + (j + 1) := by omega
        rw [e2] at this
        exact this
theorem map_some_get {vs : List V} {i : Nat} {v : V} (e : (vs.map some)[i]? = some (some v)) : vs[i]? = some v := by
  rw [List.getElem?_map] at e
  cases h : vs[i]? with
  | none => rw [h] at e; cases e
  | some x => rw [h] at e; cases e; rfl
theorem fn_body {K : PySem.W.Frag} {P : List Nat} {m n : Nat} {S : Sm} {N : List Str} {vs : List V} {H : Hp} {Q : VK} {E : XK} (h : spD K n (fnD P m S) vs H Q E) (hN : N.length = n + m) (hP : ∀ i ∈ P, i < n) :
    tS K P S { nx := fun _ H' => Q .non H', rt := Q } (L2.start N vs) H := by
  obtain ⟨hl, G, as, r, as', R, e, q⟩ := h
  obtain ⟨⟨fl, δ'⟩, e1, e⟩ := bind_some_of e
  obtain ⟨r', e2, e⟩ := bind_some_of e
  obtain ⟨hk, e⟩ : okR P δ' r' = true ∧ (back P 0 as δ').bind (fun b => some (r', b)) = some (r, as') := by
    by_cases z : okR P δ' r' = true
    · rw [if_pos z] at e; exact ⟨z, e⟩
    · rw [if_neg z] at e; cases e
  obtain ⟨b, e3, e⟩ := bind_some_of e
  cases e
  obtain ⟨bl, bg⟩ := back_get e3
  have al : as.length = n := by rw [← R.len, List.length_map]; exact hl
  have es : L2.start N vs = vs.map some ++ List.replicate m none := by
    unfold L2.start
    rw [hN, hl]
    have : n + m - n = m := by omega
    rw [this]
  have sl : (vs.map some).length = as.length := R.len
  have getA : ∀ {i : Nat}, i < n → (L2.start N vs)[i]? = (vs.map some)[i]? := fun {i} hi => by
    rw [es, List.getElem?_append_left (by rw [List.length_map]; omega)]
  have getD : ∀ {i : Nat}, i < n → (as ++ List.replicate m Sl.no)[i]? = as[i]? := fun {i} hi => by
    rw [List.getElem?_append_left (by omega)]
  have big : ∀ {i : Nat} {s : Sl}, ¬ i < n → (as ++ List.replicate m Sl.no)[i]? = some s → s = .no := fun {i s} hi h => by
    rw [List.getElem?_append_right (by omega)] at h
    exact (List.eq_of_mem_replicate (List.mem_of_getElem? h))
  have own0 : ∀ {a : Addr}, Own (L2.start N vs) (as ++ List.replicate m .no) a → Own (vs.map some) as a := by
    rintro a ⟨i, t, ds, h1, h2⟩
    by_cases hi : i < n
    · rw [getA hi] at h1; rw [getD hi] at h2
      exact ⟨i, t, ds, h1, h2⟩
    · have := big hi h2; cases this
  have R0 : Rel K G H (L2.start N vs) (as ++ List.replicate m .no) := by
    refine ⟨R.sub, by rw [es]; simp [sl], fun i s h => ?_, fun i j p tt uu ds es' h1 h2 h3 h4 => ?_, R.inv⟩
    · by_cases hi : i < n
      · rw [getD hi] at h; rw [getA hi]; exact R.slot i s h
      · have := big hi h; subst this; trivial
    · by_cases hi : i < n
      · by_cases hj : j < n
        · rw [getA hi] at h1; rw [getD hi] at h2; rw [getA hj] at h3; rw [getD hj] at h4
          exact R.inj i j p tt uu ds es' h1 h2 h3 h4
        · have := big hj h4; cases this
      · have := big hi h2; cases this
  refine tS_run R0 e1 fun σ' G' H' R' st pin => ?_
  have bo : ∀ {j : Nat} {t : Bt} {ds : List PyData}, as'[j]? = some (.bx t ds) → P.contains j = true ∧ δ'[j]? = some (.bx t ds) := fun {j t ds} h => by
    rcases bg j _ h with ⟨h1, h2⟩ | ⟨_, h2⟩
    · rw [Nat.zero_add] at h1; exact ⟨h1, h2⟩
    · exact absurd rfl (h2.1 t ds)
  have pg : ∀ {j : Nat}, P.contains j = true → σ'[j]? = (vs.map some)[j]? := fun {j} h => by
    have hm : j ∈ P := by
      rw [List.contains_eq_mem] at h
      exact of_decide_eq_true h
    rw [pin j hm, getA (hP j hm)]
  have bown : ∀ {a : Addr}, Own (vs.map some) as' a → Own σ' δ' a := by
    rintro a ⟨i, t, ds, h1, h2⟩
    obtain ⟨h3, h4⟩ := bo h2
    exact ⟨i, t, ds, by rw [pg h3]; exact h1, h4⟩
  have Rb : Rel K G' H' (vs.map some) as' := by
    refine ⟨R'.sub, by rw [bl]; exact R.len, fun j s h => ?_, fun i j p tt uu ds es' h1 h2 h3 h4 => ?_, R'.inv⟩
    · rcases bg j s h with ⟨h1, h2⟩ | ⟨h1, h2⟩
      · rw [Nat.zero_add] at h1
        rw [← pg h1]
        exact R'.slot j s h2
      · exact (R.slot j s h1).same st.same (fun p t ws ds e => absurd e (h2.1 t ds)) fun x p e => absurd e (h2.2 x)
    · obtain ⟨k1, k2⟩ := bo h2
      obtain ⟨k3, k4⟩ := bo h4
      exact R'.inj i j p tt uu ds es' (by rw [pg k1]; exact h1) k2 (by rw [pg k3]; exact h3) k4
  have stb : Stp (vs.map some) as G H (vs.map some) as' G' H' := by
    refine ⟨fun a o h n => ?_, st.dom, st.same, fun a o h => ?_⟩
    · obtain ⟨h1, h2⟩ := st.keep a o h fun z => n (own0 z)
      exact ⟨h1, fun z => h2 (bown z)⟩
    · rcases st.grow a o h with h | h | h
      · exact .inl h
      · exact .inr (.inl h)
      · exact .inr (.inr (own0 h))
  have fin : ∀ v, RW K G' H' H (L2.start N vs) (as ++ List.replicate m .no) σ' δ' v r → Q v H' := fun v rv => by
    refine q v G' H' Rb stb ?_
    cases r with
    | bx t ds =>
      obtain ⟨p, ws, h1, h2, h3, h4, h5, h6⟩ := rv
      refine ⟨p, ws, h1, h2, h3, fun z => h4 (bown z), ?_, h6⟩
      rcases h5 with h5 | h5
      · exact h5
      · exfalso
        obtain ⟨i, u, es, k1, k2⟩ := own0 h5
        have hP := back_own e3 k2
        rw [Nat.zero_add] at hP
        have hm : i ∈ P := by
          rw [List.contains_eq_mem] at hP
          exact of_decide_eq_true hP
        have ho : isOw δ'[i]? = true := List.all_eq_true.mp (show P.all (fun i => isOw δ'[i]?) = true from hk) i hm
        have hor : (∃ u' fs, δ'[i]? = some (.bx u' fs)) ∨ ∃ x, δ'[i]? = some (.mo x) := by
          revert ho
          generalize δ'[i]? = o
          intro ho
          match o, ho with
          | some (.bx u' fs), _ => exact .inl ⟨u', fs, rfl⟩
          | some (.mo x), _ => exact .inr ⟨x, rfl⟩
        rcases hor with ⟨u', fs, hf⟩ | ⟨x, hf⟩
        · exact h4 ⟨i, u', fs, by rw [pg hP]; exact k1, hf⟩
        · obtain ⟨p', z1, z2⟩ := R'.slot i _ hf
          have z3 := getD_some z1
          rw [pg hP, k1] at z3
          cases z3
          rcases Memo.mg z2 with y | ⟨φ, y⟩
          · exact y h3
          · obtain ⟨o, e1, nv, _⟩ := h2.at
            rw [e1] at y; cases y
            exact nv ⟨φ, rfl⟩
    | no => exact rv
    | im d => exact rv
    | fz d => exact rv
    | raw d => exact rv
    | mo d => exact rv
  cases fl with
  | nx => cases e2; exact fin .non .non
  | bk => cases e2
  | ct => cases e2
  | rt r2 => cases e2; exact fin
def dCall (f : Fn) (as : List Ag) : Ex := fun δ => (agE as δ).bind fun x => (agS as x.1 x.2).bind fun ss => (f ss).bind fun y => some (y.1, agB as y.2 x.2)
section
variable {K : PySem.W.Frag} {G H : Hp} {σ : SS}
/-- where a parameter's slot comes from -/
theorem agS_get : ∀ {as : List Ag} {ps : List (Option Sl)} {δ ss : List Sl} {vs : List V}, agS as ps δ = some ss → AW K G σ vs as ps → ss.length = vs.length ∧ ∀ (j : Nat) (s : Sl), ss[j]? = some s → ∃ v, vs[j]? = some v ∧
    ((AV K G v s ∧ (∀ t ds, s ≠ .bx t ds) ∧ ∀ x, s ≠ .mo x) ∨ (∃ i t ds, as[j]? = some (.io i) ∧ s = .bx t ds ∧ δ[i]? = some (.bx t ds) ∧ σ[i]? = some (some v)) ∨
      ∃ i x, as[j]? = some (.io i) ∧ s = .mo x ∧ δ[i]? = some (.mo x) ∧ σ[i]? = some (some v))
  | [], [], δ, ss, [], h, _ => by
    cases h
    exact ⟨rfl, fun j s e => by simp at e⟩
  | .io i :: as, none :: ps, δ, ss, v :: vs, h, w => by
    obtain ⟨s0, e0, h⟩ := bind_some_of h
    obtain ⟨t, e1, h⟩ := bind_some_of h
    cases h
    obtain ⟨hl, ih⟩ := agS_get e1 w.2
    refine ⟨by simp [hl], fun j s e => ?_⟩
    cases j with
    | zero =>
      cases e
      split at e0
      · rename_i t ds hd
        cases e0
        exact ⟨v, rfl, .inr (.inl ⟨i, t, ds, rfl, rfl, hd, w.1⟩)⟩
      · rename_i x hd
        cases e0
        exact ⟨v, rfl, .inr (.inr ⟨i, x, rfl, rfl, hd, w.1⟩)⟩
      · cases e0
    | succ j => exact ih j s e
  | .ex F :: as, some s0 :: ps, δ, ss, v :: vs, h, w => by
    obtain ⟨t, e1, h⟩ := bind_some_of h
    cases h
    obtain ⟨hl, ih⟩ := agS_get e1 w.2
    refine ⟨by simp [hl], fun j s e => ?_⟩
    cases j with
    | zero =>
      cases e
      refine ⟨v, rfl, .inl ⟨w.1, fun t ds e => ?_, fun x e => ?_⟩⟩ <;>
      · subst e
        exact w.1
    | succ j => exact ih j s e
theorem agI_mem : ∀ {as : List Ag} {j i : Nat}, as[j]? = some (.io i) → i ∈ agI as
  | .io k :: as, 0, i, h => by cases h; exact List.mem_cons_self
  | .io k :: as, j + 1, i, h => List.mem_cons_of_mem _ (agI_mem (j := j) h)
  | .ex F :: as, j + 1, i, h => agI_mem (as := as) (j := j) h
theorem agI_inj : ∀ {as : List Ag} {j k i : Nat}, (agI as).Nodup → as[j]? = some (.io i) → as[k]? = some (.io i) → j = k
  | .io a :: as, 0, 0, i, _, _, _ => rfl
  | .io a :: as, 0, k + 1, i, n, h1, h2 => by
    cases h1
    exact absurd (agI_mem (as := as) (j := k) h2) (List.nodup_cons.mp n).1
  | .io a :: as, j + 1, 0, i, n, h1, h2 => by
    cases h2
    exact absurd (agI_mem (as := as) (j := j) h1) (List.nodup_cons.mp n).1
  | .io a :: as, j + 1, k + 1, i, n, h1, h2 => congrArg (· + 1) (agI_inj (as := as) (List.nodup_cons.mp n).2 h1 h2)
  | .ex F :: as, j + 1, k + 1, i, n, h1, h2 => congrArg (· + 1) (agI_inj (as := as) n h1 h2)
/-- what stands in the caller's slots behind the call -/
theorem agB_get : ∀ {as : List Ag} {ss δ : List Sl} {n : Nat}, ss.length = as.length → (agI as).Nodup → (agB as ss δ).length = δ.length ∧ ∀ (k : Nat) (s : Sl), (agB as ss δ)[k]? = some s → (k ∉ agI as ∧ δ[k]? = some s) ∨ ∃ j : Nat, as[j]? = some (Ag.io k) ∧ ss[j]? = some s
  | [], [], δ, n, _, _ => ⟨rfl, fun k s h => .inl ⟨by simp [agI], h⟩⟩
  | .io i :: as, s0 :: ss, δ, n, hl, nd => by
    obtain ⟨h1, h2⟩ := agB_get (as := as) (ss := ss) (δ := δ.set i s0) (n := n) (by simpa using hl) (List.nodup_cons.mp nd).2
    refine ⟨by simpa [agB] using h1, fun k s h => ?_⟩
    rcases h2 k s h with ⟨h3, h4⟩ | ⟨j, h3, h4⟩
    · by_cases hk : k = i
      · subst hk
        have hlt : k < δ.length := by
          have := (List.getElem?_eq_some_iff.mp h4).1
          simpa using this
        rw [List.getElem?_set_self hlt] at h4
        exact .inr ⟨0, rfl, h4⟩
      · rw [List.getElem?_set_ne (Ne.symm hk)] at h4
        exact .inl ⟨fun z => (List.mem_cons.mp z).elim hk h3, h4⟩
    · exact .inr ⟨j + 1, h3, h4⟩
  | .ex F :: as, s0 :: ss, δ, n, hl, nd => by
    obtain ⟨h1, h2⟩ := agB_get (as := as) (ss := ss) (δ := δ) (n := n) (by simpa using hl) nd
    refine ⟨h1, fun k s h => ?_⟩
    rcases h2 k s h with h3 | ⟨j, h3, h4⟩
    · exact .inl h3
    · exact .inr ⟨j + 1, h3, h4⟩
theorem agS_len {as : List Ag} {ps : List (Option Sl)} {vs : List V} : AW K G σ vs as ps → vs.length = as.length := by
  induction vs generalizing as ps with
  | nil =>
    intro h
    cases as with
    | nil => rfl
    | cons a as => cases a <;> cases ps <;> exact h.elim
  | cons v vs ih =>
    intro h
    cases as with
    | nil => cases ps <;> exact h.elim
    | cons a as =>
      cases a with
      | io i =>
        cases ps with
        | nil => exact h.elim
        | cons p ps =>
          cases p with
          | none => exact congrArg (· + 1) (ih h.2)
          | some s => exact h.elim
      | ex F =>
        cases ps with
        | nil => exact h.elim
        | cons p ps =>
          cases p with
          | none => exact h.elim
          | some s => exact congrArg (· + 1) (ih h.2)
theorem call_core {n : Nat} {f : Fn} {as : List Ag} {Q : VK} {E : XK} {G1 H1 : Hp} {δ1 ss ss' : List Sl} {ps : List (Option Sl)} {r1 : Sl} {vs : List V} (nd : (agI as).Nodup) (hn : as.length = n) (R1 : Rel K G1 H1 σ δ1) (aw : AW K G1 σ vs as ps)
    (e2 : agS as ps δ1 = some ss) (e3 : f ss = some (r1, ss')) (hm : (∀ a, ¬ Memo.W a) ∨ ∀ (i : Nat) (x : Inf), δ1[i]? = some (.mo x) → i ∈ agI as)
    (q : ∀ (v : V) (G2 H2 : Hp), Rel K G2 H2 σ (agB as ss' δ1) → Stp σ δ1 G1 H1 σ (agB as ss' δ1) G2 H2 → RV K G2 H2 H1 σ (agB as ss' δ1) v r1 → Q v H2) : spD K n f vs H1 Q E := by
  obtain ⟨sl, sg⟩ := agS_get e2 aw
  have vl := agS_len aw
  have RA : Rel K G1 H1 (vs.map some) ss := by
    refine ⟨R1.sub, by rw [List.length_map]; exact sl.symm, fun j s h => ?_, fun i j p tt uu ds es h1 h2 h3 h4 => ?_, R1.inv⟩
    · obtain ⟨v, hv, h⟩ := sg j s h
      have ev : ((vs.map some)[j]?).getD none = some v := by rw [List.getElem?_map, hv]; rfl
      rw [ev]
      rcases h with ⟨h, h', h5⟩ | ⟨i, t, ds, h1, rfl, h2, h3⟩ | ⟨i, x, h1, rfl, h2, h3⟩
      · cases s with
        | no => exact h.elim
        | im d => exact ⟨v, rfl, h⟩
        | bx t d => exact absurd rfl (h' t d)
        | fz d => obtain ⟨p, ws, e, q, r⟩ := h; exact ⟨p, ws, by rw [e], q, r⟩
        | raw u => rw [show v = u from h]; rfl
        | mo x => exact absurd rfl (h5 x)
      · have := R1.slot i _ h2
        rw [h3] at this
        exact this
      · have := R1.slot i _ h2
        rw [h3] at this
        exact this
    · obtain ⟨v1, hv1, k1⟩ := sg i _ h2
      obtain ⟨v2, hv2, k2⟩ := sg j _ h4
      rcases k1 with ⟨_, k1, _⟩ | ⟨a, t1, d1, b1, b2, b3, b4⟩ | ⟨_, _, _, z, _⟩
      · exact absurd rfl (k1 tt ds)
      rotate_left
      · cases z
      rcases k2 with ⟨_, k2, _⟩ | ⟨a', t1', d1', c1, c2, c3, c4⟩ | ⟨_, _, _, z, _⟩
      · exact absurd rfl (k2 uu es)
      rotate_left
      · cases z
      have x1 := map_some_get h1
      have x2 := map_some_get h3
      rw [hv1] at x1; cases x1
      rw [hv2] at x2; cases x2
      have := R1.inj a a' p t1 t1' d1 d1' b4 b3 c4 c3
      subst this
      exact agI_inj nd b1 c1
  have ownA : ∀ {a : Addr}, Own (vs.map some) ss a → Own σ δ1 a := by
    rintro a ⟨j, t, ds, h1, h2⟩
    obtain ⟨v, hv, k⟩ := sg j _ h2
    rcases k with ⟨_, k, _⟩ | ⟨i, t1, d1, b1, b2, b3, b4⟩ | ⟨_, _, _, z, _⟩
    · exact absurd rfl (k t ds)
    rotate_left
    · cases z
    have x1 := map_some_get h1
    rw [hv] at x1; cases x1
    exact ⟨i, t1, d1, b4, b3⟩
  refine ⟨by rw [vl, hn], G1, ss, r1, ss', RA, e3, fun v G2 H2 R2 st2 rv => ?_⟩
  have sg2 := st2.same
  have l2 : ss'.length = as.length := by rw [← R2.len, List.length_map]; exact vl
  obtain ⟨bl, bg⟩ := agB_get (δ := δ1) (n := 0) l2 nd
  -- how a slot behind the call comes
  have src : ∀ (k : Nat) (s : Sl), (agB as ss' δ1)[k]? = some s → (k ∉ agI as ∧ δ1[k]? = some s) ∨ ∃ (j : Nat) (w : V), vs[j]? = some w ∧ σ[k]? = some (some w) ∧ ss'[j]? = some s ∧ ((∃ (t : Bt) (ds : List PyData), ss[j]? = some (Sl.bx t ds)) ∨ ∀ t ds, s ≠ .bx t ds) ∧ as[j]? = some (Ag.io k) := fun k s h => by
    rcases bg k s h with h | ⟨j, h1, h2⟩
    · exact .inl h
    · refine .inr ?_
      have hj : j < ss.length := by
        have := (List.getElem?_eq_some_iff.mp h2).1
        omega
      obtain ⟨w, hw, k2⟩ := sg j ss[j] (List.getElem?_eq_getElem hj)
      rcases k2 with ⟨k3, k4, k5⟩ | ⟨i, t1, d1, b1, b2, b3, b4⟩ | ⟨i, x, b1, b2, b3, b4⟩
      · -- an inout argument is a list of its own
        exfalso
        clear bg bl
        have : ∀ (as : List Ag) (ps : List (Option Sl)) (ss : List Sl) (j : Nat) (s : Sl), agS as ps δ1 = some ss → as[j]? = some (.io k) → ss[j]? = some s → (∃ t d, s = .bx t d) ∨ ∃ x, s = .mo x := by
          intro as
          induction as with
          | nil => intro ps ss j s _ h; simp at h
          | cons a as ih =>
            intro ps ss j s h h1 h2
            cases a with
            | io i =>
              cases ps with
              | nil => cases h
              | cons p ps =>
                cases p with
                | some x => cases h
                | none =>
                  obtain ⟨s0, e0, h⟩ := bind_some_of h
                  obtain ⟨t, e1, h⟩ := bind_some_of h
                  cases h
                  cases j with
                  | zero =>
                    cases h2
                    split at e0
                    · cases e0; exact .inl ⟨_, _, rfl⟩
                    · cases e0; exact .inr ⟨_, rfl⟩
                    · cases e0
                  | succ j => exact ih ps t j s e1 h1 h2
            | ex F =>
              cases ps with
              | nil => cases h
              | cons p ps =>
                cases p with
                | none => cases h
                | some x =>
                  obtain ⟨t, e1, h⟩ := bind_some_of h
                  cases h
                  cases j with
                  | zero => cases h1
                  | succ j => exact ih ps t j s e1 h1 h2
        rcases this as ps ss j ss[j] e2 h1 (List.getElem?_eq_getElem hj) with ⟨t, d, hd⟩ | ⟨x, hd⟩
        · exact k4 t d hd
        · exact k5 x hd
      · rw [h1] at b1; cases b1
        exact ⟨j, w, hw, b4, h2, .inl ⟨t1, d1, by rw [List.getElem?_eq_getElem hj, b2]⟩, h1⟩
      · rw [h1] at b1; cases b1
        refine ⟨j, w, hw, b4, h2, .inr fun t ds z => ?_, h1⟩
        subst z
        obtain ⟨p, z1, z2⟩ := R1.slot k _ b3
        obtain ⟨p', ws, z3, _, z4, _⟩ := R2.slot j _ h2
        have ev : ((vs.map some)[j]?).getD none = some w := by rw [List.getElem?_map, hw]; rfl
        rw [ev] at z3
        rw [b4] at z1
        cases z3; cases z1
        rcases Memo.mg z2 with hg | ⟨φ, hφ⟩
        · exact hg (gfree sg2 z4)
        · exact (st2.keep _ _ hφ (own_lst RA hφ soft_ext)).2 ⟨j, t, ds, by rw [List.getElem?_map, hw]; rfl, h2⟩
  have R3 : Rel K G2 H2 σ (agB as ss' δ1) := by
    refine ⟨R2.sub, by rw [bl]; exact R1.len, fun k s h => ?_, fun i j p tt uu ds es h1 h2 h3 h4 => ?_, R2.inv⟩
    · rcases src k s h with ⟨h1, h2⟩ | ⟨j, w, h1, h2, h3, _⟩
      · refine (R1.slot k s h2).same st2.same (fun p t ws ds e g1 g2 g3 => ?_) fun x p e _ m => by
          subst e
          rcases hm with hm | hm
          · exact Memo.mst m st2.same (gn_stp RA st2) fun a o e ns => (st2.keep a o e (own_lst RA e ns)).1 fun z => hm _ z.2
          · exact absurd (hm k x h2) h1
        subst e
        have no : ¬ Own (vs.map some) ss p := by
          rintro ⟨j, u, d2, z1, z2⟩
          obtain ⟨w, hw, k2⟩ := sg j _ z2
          rcases k2 with ⟨_, k2, _⟩ | ⟨i, t1, d1, b1, b2, b3, b4⟩ | ⟨_, _, _, z, _⟩
          · exact absurd rfl (k2 u d2)
          rotate_left
          · cases z
          have x1 := map_some_get z1
          rw [hw] at x1; cases x1
          have := R1.inj k i p t t1 ds d1 (getD_some g3) h2 b4 b3
          subst this
          exact h1 (agI_mem b1)
        obtain ⟨o1, g1, nv, kb⟩ := g1.at
        refine ⟨kb _ ((st2.keep p _ g1 no).1 fun z => nv z.1), ?_⟩
        cases hg : G2 p with
        | none => rfl
        | some u =>
          rcases st2.grow p u hg with z | z | z
          · rw [g2] at z; cases z
          · rw [g1] at z; cases z
          · exact absurd z no
      · have := R2.slot j s h3
        have ev : ((vs.map some)[j]?).getD none = some w := by rw [List.getElem?_map, h1]; rfl
        rw [ev] at this
        rw [h2]
        exact this
    · rcases src i _ h2 with ⟨a1, a2⟩ | ⟨a, w, a1, a2, a3, a4', a5⟩
      · rcases src j _ h4 with ⟨b1, b2⟩ | ⟨b, w', b1, b2, b3, b4', b5⟩
        · exact R1.inj i j p tt uu ds es h1 a2 h3 b2
        · exfalso
          rw [h3] at b2; cases b2
          obtain ⟨t2, d2, b4⟩ := b4'.resolve_right fun z => z _ _ rfl
          have o : Own (vs.map some) ss p := ⟨b, t2, d2, by rw [List.getElem?_map, b1]; rfl, b4⟩
          obtain ⟨k2, t3, d3, o1, o2⟩ := ownA o
          have := R1.inj i k2 p tt t3 ds d3 h1 a2 o1 o2
          subst this
          rcases sg b _ b4 with ⟨w2, hw2, k3⟩
          rcases k3 with ⟨_, k3, _⟩ | ⟨i3, t4, d4, c1, c2, c3, c4⟩ | ⟨_, _, _, z, _⟩
          · exact absurd rfl (k3 t2 d2)
          rotate_left
          · cases z
          rw [b1] at hw2; cases hw2
          have := R1.inj i i3 p tt t4 ds d4 h1 a2 c4 c3
          subst this
          exact a1 (agI_mem c1)
      · rcases src j _ h4 with ⟨b1, b2⟩ | ⟨b, w', b1, b2, b3, b4', b5⟩
        · exfalso
          rw [h1] at a2; cases a2
          obtain ⟨t1, d1, a4⟩ := a4'.resolve_right fun z => z _ _ rfl
          rcases sg a _ a4 with ⟨w2, hw2, k3⟩
          rcases k3 with ⟨_, k3, _⟩ | ⟨i3, t4, d4, c1, c2, c3, c4⟩ | ⟨_, _, _, z, _⟩
          · exact absurd rfl (k3 t1 d1)
          rotate_left
          · cases z
          rw [a1] at hw2; cases hw2
          have := R1.inj j i3 p uu t4 es d4 h3 b2 c4 c3
          subst this
          exact b1 (agI_mem c1)
        · rw [h1] at a2; cases a2
          rw [h3] at b2; cases b2
          have hab := R2.inj a b p tt uu ds es (by rw [List.getElem?_map, a1]; rfl) a3 (by rw [List.getElem?_map, b1]; rfl) b3
          subst hab
          rw [a5] at b5; cases b5
          rfl
  have st3 : Stp σ δ1 G1 H1 σ (agB as ss' δ1) G2 H2 := by
    refine ⟨fun a o h n => ?_, st2.dom, st2.same, fun a o h => ?_⟩
    · obtain ⟨k1, k2⟩ := st2.keep a o h fun z => n (ownA z)
      refine ⟨k1, ?_⟩
      rintro ⟨k, t, ds, z1, z2⟩
      rcases src k _ z2 with ⟨y1, y2⟩ | ⟨j, w, y1, y2, y3, _⟩
      · exact n ⟨k, t, ds, z1, y2⟩
      · rw [z1] at y2; cases y2
        exact k2 ⟨j, t, ds, by rw [List.getElem?_map, y1]; rfl, y3⟩
    · rcases st2.grow a o h with h | h | h
      · exact .inl h
      · exact .inr (.inl h)
      · exact .inr (.inr (ownA h))
  refine q v G2 H2 R3 st3 ?_
  cases r1 with
  | no => exact rv
  | im d => exact rv
  | fz d => exact rv
  | raw d => exact rv
  | mo d => exact rv
  | bx t ds =>
    obtain ⟨p, ws, h1, h2, h3, h4, h5, h6⟩ := rv
    refine ⟨p, ws, h1, h2, h3, ?_, h5, h6⟩
    rintro ⟨k, u, d2, z1, z2⟩
    rcases src k _ z2 with ⟨y1, y2⟩ | ⟨j, w, y1, y2, y3, _⟩
    · obtain ⟨_, t2, ws2, z3⟩ := R1.gOwn ⟨k, u, d2, z1, y2⟩
      exact z3.not h5
    · rw [z1] at y2; cases y2
      exact h4 ⟨j, u, d2, by rw [List.getElem?_map, y1]; rfl, y3⟩
theorem call_go [Still ‹Memo›] {n : Nat} {f : Fn} {as : List Ag} {H : Hp} {Q : VK} {E : XK} (nd : (agI as).Nodup) (hn : as.length = n) (h : tD K (dCall f as) σ H Q) : tAg K as σ H fun vs H1 => spD K n f vs H1 Q E := by
  obtain ⟨G, δ, r, δ', R, e, q⟩ := h
  obtain ⟨⟨ps, δ1⟩, e1, e⟩ := bind_some_of e
  obtain ⟨ss, e2, e⟩ := bind_some_of e
  obtain ⟨⟨r1, ss'⟩, e3, e⟩ := bind_some_of e
  cases e
  exact ⟨G, δ, ps, δ1, R, e1, fun vs G1 H1 R1 st1 aw => call_core nd hn R1 aw e2 e3 (.inl Still.st) fun v G2 H2 R2 st2 rv => q v G2 H2 R2 (st1.trans st2) (rv.ahead st1)⟩
/-- which objects that remember are among the slots handed on: all -/
def moIn (l : List Nat) : Nat → List Sl → Bool
  | _, [] => true
  | i, .mo _ :: r => l.contains i && moIn l (i + 1) r
  | i, _ :: r => moIn l (i + 1) r
def dCallM (f : Fn) (as : List Ag) : Ex := fun δ => (agE as δ).bind fun x => if moIn (agI as) 0 x.2 = true then (agS as x.1 x.2).bind fun ss => (f ss).bind fun y => some (y.1, agB as y.2 x.2) else none
end
end CK
namespace CK
open PySem PySem.Spec PyProof.Rows L2
variable [Memo]
abbrev Tg := PyData → List Sl → Option (List Sl)
def tG (K : PySem.W.Frag) (P : List Nat) (t : Tg) : TG := fun v σ H Q => ∃ (G : Hp) (δ : List Sl) (d : PyData) (δ' : List Sl), Rel K G H σ δ ∧ Rp K G v d ∧ t d δ = some δ' ∧
  ∀ (σ' : SS), Rel K G H σ' δ' → Stp σ δ G H σ' δ' G H → Pin P σ σ' → Q σ' H
def tGs (K : PySem.W.Frag) (P : List Nat) (t : List PyData → List Sl → Option (List Sl)) : TGs := fun vs σ H Q => ∃ (G : Hp) (δ : List Sl) (ds : List PyData) (δ' : List Sl), Rel K G H σ δ ∧ RpAll K G vs ds ∧ t ds δ = some δ' ∧
  ∀ (σ' : SS), Rel K G H σ' δ' → Stp σ δ G H σ' δ' G H → Pin P σ σ' → Q σ' H
theorem PG.by {X : Cx} {e : Expr} {t t' : TG} (h : PG X e t) (w : ∀ v σ H Q, t' v σ H Q → t v σ H Q) : PG X e t' := ⟨fun pins s σ H v u Q I r q => h.run pins s σ H v u Q I r (w v σ H Q q)⟩
theorem PGs.by {X : Cx} {e : List Expr} {t t' : TGs} (h : PGs X e t) (w : ∀ v σ H Q, t' v σ H Q → t v σ H Q) : PGs X e t' := ⟨fun pins s σ H v u Q I r q => h.run pins s σ H v u Q I r (w v σ H Q q)⟩
def tgN (i : Nat) : Tg := fun d δ => some (δ.set i (.im d))
def tgT (t : List PyData → List Sl → Option (List Sl)) : Tg := fun d δ => match d with
  | .tuple ds => t ds δ
  | _ => none
def tgNil : List PyData → List Sl → Option (List Sl) := fun ds δ => match ds with
  | [] => some δ
  | _ => none
def tgCons (t : Tg) (u : List PyData → List Sl → Option (List Sl)) : List PyData → List Sl → Option (List Sl) := fun ds δ => match ds with
  | d :: r => (t d δ).bind fun δ1 => u r δ1
  | _ => none
section
variable {X : Cx} {P : List Nat} {pos : Pos} {e : Expr} {es : List Expr} {t : Tg} {u : List PyData → List Sl → Option (List Sl)}
theorem dg_name {i : Nat} {x : Str} (hN : X.N.Nodup) (hi : X.N[i]? = some x) (hx : Loc X.env.scope x) (hp : P.contains i = false := by rfl) (hf : X.fn x = true ∨ X.env.scope.names.lookup x = some .local := by first | exact .inl rfl | exact .inr rfl | assumption) :
    PG X (.Name x pos) (tG X.K P (tgN i)) := PG.by (pg_name hN hi hx hf) fun v σ H Q h => by
  obtain ⟨G, δ, d, δ', R, r, e, q⟩ := h
  cases e
  exact q _ (R.set ⟨v, rfl, r⟩ fun _ _ _ e => nomatch e) (Stp.setR R Stp.refl fun _ _ _ e => nomatch e) (Pin.set hp)
theorem dgs_nil : PGs X [] (tGs X.K P tgNil) := PGs.by pgs_nil fun v σ H Q h => by
  obtain ⟨G, δ, ds, δ', R, r, e, q⟩ := h
  unfold tgNil at e
  split at e
  · cases e; cases r
    exact ⟨rfl, q σ R Stp.refl Pin.refl⟩
  · cases e
theorem dgs_cons (h1 : PG X e (tG X.K P t)) (h2 : PGs X es (tGs X.K P u)) (hs : (assignEach (e :: es) X.env).map (·.2) = assign e X.env :: (assignEach es X.env).map (·.2) := by rfl) : PGs X (e :: es) (tGs X.K P (tgCons t u)) := PGs.by (pgs_cons h1 h2 hs) fun vs σ H Q h => by
  obtain ⟨G, δ, ds, δ', R, r, e, q⟩ := h
  unfold tgCons at e
  split at e
  · rename_i d ds' 
    obtain ⟨δ1, e1, e⟩ := bind_some_of e
    cases r with
    | cons r1 r2 =>
      refine ⟨_, _, rfl, G, δ, d, δ1, R, r1, e1, fun σ1 R1 st1 p1 => ?_⟩
      exact ⟨G, δ1, ds', δ', R1, r2, e, fun σ2 R2 st2 p2 => q σ2 R2 (st1.trans st2) (p1.trans p2)⟩
  · cases e
theorem dg_tup {k : Nat} {n : Nat} (hc : X.calm = true) (h : PGs X es (tGs X.K P u)) (hl : ∀ ds δ δ', u ds δ = some δ' → ds.length = n) (hn : (assignEach es X.env).length = n := by rfl) (hst : (assignEach es X.env).findIdx? (·.1) = none := by rfl) :
    PG X (.Tuple es k pos) (tG X.K P (tgT u)) := PG.by (pg_tup hc h hn hst) fun v σ H Q h => by
  obtain ⟨G, δ, d, δ', R, r, e, q⟩ := h
  unfold tgT at e
  split at e
  · rename_i ds
    cases r with
    | tup hq ra =>
      exact ⟨_, _, rfl, sqT_same R.sub hq, by rw [ra.length]; exact hl ds δ δ' e, G, δ, ds, δ', R, ra, e, q⟩
  · cases e
end
theorem tgNil_len : ∀ ds δ δ', tgNil ds δ = some δ' → ds.length = 0 := fun ds δ δ' h => by
  unfold tgNil at h
  split at h
  · rfl
  · cases h
theorem tgCons_len {t : Tg} {u : List PyData → List Sl → Option (List Sl)} {n : Nat} (hu : ∀ ds δ δ', u ds δ = some δ' → ds.length = n) : ∀ ds δ δ', tgCons t u ds δ = some δ' → ds.length = n + 1 := fun ds δ δ' h => by
  unfold tgCons at h
  split at h
  · obtain ⟨δ1, _, h⟩ := bind_some_of h
    rw [List.length_cons, hu _ _ _ h]
  · cases h
/-- target = value -/
def sAsg (t : Tg) (F : Ex) : Sm := fun δ => (F δ).bind fun x => x.1.sh.bind fun d => (t d x.2).bind fun δ1 => some (.nx, δ1)
theorem ds_asg {X : Cx} {P : List Nat} {tg e : Expr} {F : Ex} {t : Tg} {pos : Pos} (he : DE X e F) (hg : PG X tg (tG X.K P t)) (hs : swapsWithSole [tg] e pos.line X.env = pure false := by rfl) (hw : swappedStores [tg] e X.env = pure none := by rfl)
    (h1 : (assignEach [tg] X.env).map (·.2) = [assign tg X.env] := by rfl) : DS X P (.Assign [tg] e pos) (sAsg t F) := PS.by (ps_asg he hg hs hw h1) fun D σ H h => by
  obtain ⟨G, δ, fl, δ', R, e, q⟩ := h
  obtain ⟨⟨r, δ1⟩, e1, e⟩ := bind_some_of e
  obtain ⟨d, e2, e⟩ := bind_some_of e
  obtain ⟨δ2, e3, e⟩ := bind_some_of e
  cases e
  refine tD_run R e1 fun v G' H' R' st rv => ?_
  obtain ⟨G2, R2, st2, _, rp⟩ := RV.shared R' st rv e2
  exact ⟨G2, δ1, d, _, R2, rp, e3, fun σ' R3 st3 p3 => q σ' G2 H' R3 (st2.trans st3) p3⟩
abbrev It' := List Sl → Option (List PyData × List Sl)
structure Walks (K : PySem.W.Frag) (J : It) (G0 : Hp) (items : List PyData) : Prop where
  go : ∀ (i : Nat) (G H : Hp), Same G0 G → Same G H → i < items.length → J.go i H
  stop : ∀ (i : Nat) (G H : Hp), Same G0 G → Same G H → items.length ≤ i → J.stop i H
  yld : ∀ (i : Nat) (G H : Hp) (x : V) (H' : Hp), Same G0 G → Same G H → i < items.length → J.yld i H x H' → ∃ d, items[i]? = some d ∧
    ((H' = H ∧ Rp K G x d) ∨ ∃ T ws ds, x = .ref T ∧ d = .tuple ds ∧ H T = none ∧ H' = upd H T (.tup ws) ∧ RpAll K G ws ds)
def tI (K : PySem.W.Frag) (I : It') : TI := fun σ H R => ∃ (G : Hp) (δ : List Sl) (items : List PyData) (δ' : List Sl), Rel K G H σ δ ∧ I δ = some (items, δ') ∧
  ∀ (J : It) (G' H' : Hp), Rel K G' H' σ δ' → Stp σ δ G H σ δ' G' H' → Walks K J G' items → R J H'
abbrev DI (X : Cx) (tg e : Expr) (I : It') : Prop := PI X tg e (tI X.K I)
theorem PI.by {X : Cx} {tg e : Expr} {t t' : TI} (h : PI X tg e t) (w : ∀ σ H R, t' σ H R → t σ H R) : PI X tg e t' := ⟨fun pins s σ H R I q => h.run pins s σ H R I (w σ H R q)⟩
/-- the turns of a loop -/
def loopD (tg : Tg) (S : Sm) : List PyData → Sm
  | [], δ => some (.nx, δ)
  | d :: ds, δ => (tg d δ).bind fun δ1 => (S δ1).bind fun x => match x.1 with
    | .nx => loopD tg S ds x.2
    | .ct => loopD tg S ds x.2
    | .bk => some (.nx, x.2)
    | .rt r => some (.rt r, x.2)
def sFor (I : It') (tg : Tg) (S : Sm) : Sm := fun δ => (I δ).bind fun x => loopD tg S x.1 x.2
theorem drop_of {α : Type} {l : List α} {i : Nat} {d : α} (h : l[i]? = some d) : l.drop i = d :: l.drop (i + 1) := by
  obtain ⟨hl, e⟩ := List.getElem?_eq_some_iff.mp h
  rw [List.drop_eq_getElem_cons hl, e]
section
variable {K : PySem.W.Frag} {P : List Nat}
theorem for_go {I : It'} {tg : Tg} {S : Sm} {D : Ends} {σ : SS} {H : Hp} (h : tS K P (sFor I tg S) D σ H) : tFor (tI K I) (tG K P tg) (tS K P S) D σ H := by
  obtain ⟨G, δ, fl, δ', R, e, q⟩ := h
  obtain ⟨⟨items, δ1⟩, e1, e⟩ := bind_some_of e
  refine ⟨G, δ, items, δ1, R, e1, fun J G1 H1 R1 st1 wk => ?_⟩
  refine ⟨fun i m σ2 H2 => m = items.length - i ∧ i ≤ items.length ∧ ∃ (G2 : Hp) (δ2 : List Sl), Rel K G2 H2 σ2 δ2 ∧ Same G1 G2 ∧ Stp σ δ G H σ2 δ2 G2 H2 ∧ Pin P σ σ2 ∧ loopD tg S (items.drop i) δ2 = some (fl, δ'),
    ⟨items.length, by simp, Nat.zero_le _, G1, δ1, R1, Same.refl _, st1, Pin.refl, e⟩, ?_⟩
  rintro i m σ2 H2 ⟨rfl, hi, G2, δ2, R2, sg, st2, p2, el⟩
  by_cases hlt : i < items.length
  · refine .inr ⟨wk.go i G2 H2 sg R2.sub hlt, fun σ3 H3 => ∃ (G3 : Hp) (δ3 : List Sl), Rel K G3 H3 σ3 δ3 ∧ Same G1 G3 ∧ Stp σ δ G H σ3 δ3 G3 H3 ∧ Pin P σ σ3 ∧ loopD tg S (items.drop (i + 1)) δ3 = some (fl, δ'),
      fun σ3 H3 h => ⟨items.length - (i + 1), by omega, rfl, hlt, h⟩, fun x H3 y => ?_⟩
    obtain ⟨d, hd, hy⟩ := wk.yld i G2 H2 x H3 sg R2.sub hlt y
    rw [drop_of hd] at el
    obtain ⟨δ3, e3, el⟩ := bind_some_of el
    obtain ⟨⟨f4, δ4⟩, e4, el⟩ := bind_some_of el
    have go : ∀ {G3 H3 : Hp}, Rel K G3 H3 σ2 δ2 → Same G2 G3 → Stp σ2 δ2 G2 H2 σ2 δ2 G3 H3 → Rp K G3 x d → tG K P tg x σ2 H3 fun σ3 H4 => tS K P S { D with nx := fun σ3 H3 => ∃ (G3 : Hp) (δ3 : List Sl), Rel K G3 H3 σ3 δ3 ∧ Same G1 G3 ∧ Stp σ δ G H σ3 δ3 G3 H3 ∧ Pin P σ σ3 ∧ loopD tg S (items.drop (i + 1)) δ3 = some (fl, δ'), ct := fun σ3 H3 => ∃ (G3 : Hp) (δ3 : List Sl), Rel K G3 H3 σ3 δ3 ∧ Same G1 G3 ∧ Stp σ δ G H σ3 δ3 G3 H3 ∧ Pin P σ σ3 ∧ loopD tg S (items.drop (i + 1)) δ3 = some (fl, δ'), bk := D.nx } σ3 H4 := fun {G3 H3} R3 sg3 st3 rp => by
      refine ⟨G3, δ2, d, δ3, R3, rp, e3, fun σ4 R4 st4 p4 => ?_⟩
      refine tS_run R4 e4 fun σ5 G5 H5 R5 st5 p5 => ?_
      have stA : Stp σ δ G H σ5 δ4 G5 H5 := ((st2.trans st3).trans st4).trans st5
      have pA : Pin P σ σ5 := (p2.trans p4).trans p5
      have sgA : Same G1 G5 := ((sg.trans sg3).trans st4.same).trans st5.same
      cases f4 with
      | nx => exact ⟨G5, δ4, R5, sgA, stA, pA, el⟩
      | ct => exact ⟨G5, δ4, R5, sgA, stA, pA, el⟩
      | bk => cases el; exact q σ5 G5 H5 R5 stA pA
      | rt r =>
        cases el
        exact endOf.ahead (D := D) ((st2.trans st3).trans st4) (q σ5 G5 H5 R5 stA pA)
    rcases hy with ⟨rfl, rp⟩ | ⟨T, ws, ds, rfl, rfl, hT, rfl, ra⟩
    · exact go R2 (Same.refl _) Stp.refl rp
    · obtain ⟨R3, sg3⟩ := R2.newS (o := .tup ws) hT
      exact go R3 sg3 ((Stp.new (G := G2) hT).share hT (gfree R2.sub hT)) (.tup (SqT.of upd_same) (ra.same sg3))
  · have e0 : i = items.length := by omega
    subst e0
    rw [List.drop_length] at el
    cases el
    exact .inl ⟨wk.stop _ G2 H2 sg R2.sub (Nat.le_refl _), q σ2 G2 H2 R2 st2 p2⟩
end
theorem ds_for {X : Cx} {P : List Nat} {tg iter : Expr} {body : List Stmt} {I : It'} {t : Tg} {S : Sm} {pos : Pos} (hp : PassesOwn (model X.prog X.w) X.A X.env X.xe) (hc : X.calm = true) (hi : DI X tg iter I) (hg : PG X tg (tG X.K P t)) (hb : DSs X P body S)
    (hs : ∀ x, foldedSetIterable iter X.env x = pure x := by intro _; rfl) : DS X P (.For tg iter body [] pos) (sFor I t S) := PS.by (ps_for hp hc hi hg hb hs) fun D σ H h => for_go h
def whileD (c : Tt) (S : Sm) : Nat → Sm
  | 0, _ => none
  | n + 1, δ => (c δ).bind fun x => if x.1 = true then (S x.2).bind fun y => (match y.1 with
      | .nx => whileD c S n y.2
      | .ct => whileD c S n y.2
      | .bk => some (.nx, y.2)
      | .rt r => some (.rt r, y.2)) else some (.nx, x.2)
open Classical in
noncomputable def sWhile (c : Tt) (S : Sm) : Sm := fun δ => if h : ∃ n, (whileD c S n δ).isSome = true then whileD c S h.choose δ else none
theorem whileD_mono {c : Tt} {S : Sm} : ∀ {n m : Nat} {δ : List Sl} {r : Fl × List Sl}, whileD c S n δ = some r → n ≤ m → whileD c S m δ = some r
  | 0, _, _, _, h, _ => by cases h
  | n + 1, 0, _, _, _, h => by omega
  | n + 1, m + 1, δ, r, h, hm => by
    obtain ⟨⟨b, δ1⟩, e1, h⟩ := bind_some_of h
    unfold whileD
    rw [e1]
    show (if b = true then _ else _) = _
    cases b with
    | false => exact h
    | true =>
      rw [if_pos rfl] at h ⊢
      obtain ⟨⟨f, δ2⟩, e2, h⟩ := bind_some_of h
      rw [e2]
      cases f with
      | nx => exact whileD_mono (n := n) (m := m) h (by omega)
      | ct => exact whileD_mono (n := n) (m := m) h (by omega)
      | bk => exact h
      | rt v => exact h
theorem sWhile_of {c : Tt} {S : Sm} {n : Nat} {δ : List Sl} {r : Fl × List Sl} (h : whileD c S n δ = some r) : sWhile c S δ = some r := by
  have ex : ∃ n, (whileD c S n δ).isSome = true := ⟨n, by rw [h]; rfl⟩
  unfold sWhile
  rw [dif_pos ex]
  have hc := ex.choose_spec
  obtain ⟨r', hr⟩ := Option.isSome_iff_exists.mp hc
  rw [hr]
  rcases Nat.le_total n ex.choose with hl | hl
  · rw [whileD_mono h hl] at hr
    exact hr.symm
  · rw [whileD_mono hr hl] at h
    exact h
theorem while_go {K : PySem.W.Frag} {P : List Nat} {c : Tt} {S : Sm} {D : Ends} {σ : SS} {H : Hp} (h : tS K P (sWhile c S) D σ H) : tWhile (tT K c) (tS K P S) D σ H := by
  obtain ⟨G, δ, fl, δ', R, e, q⟩ := h
  unfold sWhile at e
  split at e
  · rename_i ex
    refine ⟨fun m σ2 H2 => ∃ (G2 : Hp) (δ2 : List Sl), Rel K G2 H2 σ2 δ2 ∧ Stp σ δ G H σ2 δ2 G2 H2 ∧ Pin P σ σ2 ∧ whileD c S m δ2 = some (fl, δ'), ⟨_, G, δ, R, Stp.refl, Pin.refl, e⟩, ?_⟩
    rintro m σ2 H2 ⟨G2, δ2, R2, st2, p2, e2⟩
    cases m with
    | zero => cases e2
    | succ m =>
      obtain ⟨⟨b, δ3⟩, e3, e2⟩ := bind_some_of e2
      refine tT_bind R2 e3 fun G3 H3 R3 st3 => ?_
      cases b with
      | false =>
        rw [if_neg Bool.false_ne_true] at e2 ⊢
        cases e2
        exact q σ2 G3 H3 R3 (st2.trans st3) p2
      | true =>
        rw [if_pos rfl] at e2 ⊢
        obtain ⟨⟨f4, δ4⟩, e4, e2⟩ := bind_some_of e2
        refine ⟨fun σ4 H4 => ∃ (G2 : Hp) (δ2 : List Sl), Rel K G2 H4 σ4 δ2 ∧ Stp σ δ G H σ4 δ2 G2 H4 ∧ Pin P σ σ4 ∧ whileD c S m δ2 = some (fl, δ'), fun σ4 H4 h => ⟨m, by omega, h⟩, ?_⟩
        refine tS_run R3 e4 fun σ5 G5 H5 R5 st5 p5 => ?_
        have stA := (st2.trans st3).trans st5
        have pA := p2.trans p5
        cases f4 with
        | nx => exact ⟨G5, δ4, R5, stA, pA, e2⟩
        | ct => exact ⟨G5, δ4, R5, stA, pA, e2⟩
        | bk => cases e2; exact q σ5 G5 H5 R5 stA pA
        | rt r => cases e2; exact endOf.ahead (D := D) (st2.trans st3) (q σ5 G5 H5 R5 stA pA)
  · cases e
theorem ds_while {X : Cx} {P : List Nat} {c : Expr} {body : List Stmt} {C : Tt} {S : Sm} {pos : Pos} (hp : PassesOwn (model X.prog X.w) X.A X.env X.xe) (hc : DT X c C) (hb : DSs X P body S) : DS X P (.While c body [] pos) (sWhile C S) := PS.by (ps_while hp hc hb) fun D σ H h => while_go h
end CK
namespace CK
open PySem PySem.Spec PyProof.Rows L2
variable [Memo]
def wipeD (δ : List Sl) : List Nat → List Sl
  | [] => δ
  | v :: vs => (wipeD δ vs).set v .no
/-- the block's own names: no list of its own stands there -/
def calmD (δ : List Sl) (vs : List Nat) : Bool := vs.all fun i => match δ[i]? with
  | some (.bx _ _) => false
  | some (.mo _) => false
  | _ => true
/-- the slots behind a block: its own names as they were -/
def unwipe (δ0 δ : List Sl) : List Nat → List Sl
  | [] => δ
  | v :: vs => (unwipe δ0 δ vs).set v (δ0[v]?.getD .no)
def lcD (tg : Tg) (c : Tt) (F : Ex) (vs : List Nat) : List PyData → List PyData → List Sl → Option (List PyData × List Sl)
  | [], acc, δ => some (acc, δ)
  | d :: ds, acc, δ => (tg d (wipeD δ vs)).bind fun δ1 => (c δ1).bind fun x => if x.1 = true then
      (F x.2).bind fun y => y.1.sh.bind fun v => if acc.length < LINE then lcD tg c F vs ds (acc ++ [v]) y.2 else none
    else lcD tg c F vs ds acc x.2
def dLc (I : It') (tg : Tg) (c : Tt) (F : Ex) (vs : List Nat) : Ex := fun δ => (I δ).bind fun x => if calmD x.2 vs = true then
  (lcD tg c F vs x.1 [] x.2).bind fun y => some (.bx .l y.1, unwipe x.2 y.2 vs) else none
section
variable {K : PySem.W.Frag} {G H : Hp} {σ σ' : SS} {δ δ' δ0 : List Sl}
theorem wipe_get {vs : List Nat} {i : Nat} : (wipe σ vs)[i]? = if i ∈ vs ∧ i < σ.length then some none else σ[i]? := by
  induction vs with
  | nil => simp [wipe]
  | cons v vs ih =>
    unfold wipe
    by_cases h : v = i
    · subst h
      by_cases hl : v < σ.length
      · rw [List.getElem?_set_self (by rw [wipe_length]; exact hl), if_pos ⟨List.mem_cons_self, hl⟩]
      · rw [List.getElem?_eq_none (by rw [List.length_set, wipe_length]; omega), if_neg (fun z => hl z.2), List.getElem?_eq_none (by omega)]
    · rw [List.getElem?_set_ne h, ih]
      have : i ∈ v :: vs ↔ i ∈ vs := by simp [List.mem_cons, Ne.symm h]
      simp only [this]
theorem wipeD_len : ∀ vs : List Nat, (wipeD δ vs).length = δ.length
  | [] => rfl
  | v :: vs => by unfold wipeD; rw [List.length_set, wipeD_len vs]
theorem wipeD_get {vs : List Nat} {i : Nat} : (wipeD δ vs)[i]? = if i ∈ vs ∧ i < δ.length then some .no else δ[i]? := by
  induction vs with
  | nil => simp [wipeD]
  | cons v vs ih =>
    unfold wipeD
    by_cases h : v = i
    · subst h
      by_cases hl : v < δ.length
      · rw [List.getElem?_set_self (by rw [wipeD_len]; exact hl), if_pos ⟨List.mem_cons_self, hl⟩]
      · rw [List.getElem?_eq_none (by rw [List.length_set, wipeD_len]; omega), if_neg (fun z => hl z.2), List.getElem?_eq_none (by omega)]
    · rw [List.getElem?_set_ne h, ih]
      have : i ∈ v :: vs ↔ i ∈ vs := by simp [List.mem_cons, Ne.symm h]
      simp only [this]
theorem unwipe_len : ∀ vs : List Nat, (unwipe δ0 δ vs).length = δ.length
  | [] => rfl
  | v :: vs => by unfold unwipe; rw [List.length_set, unwipe_len vs]
theorem unwipe_get {vs : List Nat} {i : Nat} : (unwipe δ0 δ vs)[i]? = if i ∈ vs ∧ i < δ.length then some (δ0[i]?.getD .no) else δ[i]? := by
  induction vs with
  | nil => simp [unwipe]
  | cons v vs ih =>
    unfold unwipe
    by_cases h : v = i
    · subst h
      by_cases hl : v < δ.length
      · rw [List.getElem?_set_self (by rw [unwipe_len]; exact hl), if_pos ⟨List.mem_cons_self, hl⟩]
      · rw [List.getElem?_eq_none (by rw [List.length_set, unwipe_len]; omega), if_neg (fun z => hl z.2), List.getElem?_eq_none (by omega)]
    · rw [List.getElem?_set_ne h, ih]
      have : i ∈ v :: vs ↔ i ∈ vs := by simp [List.mem_cons, Ne.symm h]
      simp only [this]
theorem wipe_len_eq {vs : List Nat} (h : wipe σ' vs = wipe σ vs) : σ'.length = σ.length := by
  have := congrArg List.length h
  rw [wipe_length, wipe_length] at this
  exact this
theorem Rel.wipe {vs : List Nat} (R : Rel K G H σ' δ) (h : L2.wipe σ' vs = L2.wipe σ vs) : Rel K G H (L2.wipe σ vs) (wipeD δ vs) := by
  have hl := wipe_len_eq h
  refine ⟨R.sub, by rw [wipe_length, wipeD_len, ← hl]; exact R.len, fun i s e => ?_, fun i j p tt uu ds es h1 h2 h3 h4 => ?_, R.inv⟩
  · rw [wipeD_get] at e
    split at e
    · cases e; trivial
    · rename_i hn
      rw [← h, wipe_get, if_neg (by rw [R.len]; exact hn)]
      exact R.slot i s e
  · rw [wipeD_get] at h2 h4
    split at h2
    · cases h2
    · split at h4
      · cases h4
      · rename_i n1 n2
        rw [← h, wipe_get, if_neg (by rw [R.len]; exact n1)] at h1
        rw [← h, wipe_get, if_neg (by rw [R.len]; exact n2)] at h3
        exact R.inj i j p tt uu ds es h1 h2 h3 h4
theorem own_wipe {vs : List Nat} {a : Addr} (R : Rel K G H σ δ) (h : Own (L2.wipe σ vs) (wipeD δ vs) a) : Own σ δ a := by
  obtain ⟨i, t, ds, h1, h2⟩ := h
  rw [wipeD_get] at h2
  split at h2
  · cases h2
  · rename_i n
    rw [wipe_get, if_neg (by rw [R.len]; exact n)] at h1
    exact ⟨i, t, ds, h1, h2⟩
/-- back outside -/
theorem Rel.unwipe {vs : List Nat} {G0 H0 : Hp} (R0 : Rel K G0 H0 σ δ0) (hc : calmD δ0 vs = true) (sg : Same G0 G) (hle : δ0.length = δ.length) (R : Rel K G H (L2.wipe σ vs) (wipeD δ vs)) : Rel K G H σ (CK.unwipe δ0 δ vs) := by
  have sl : σ.length = δ.length := by rw [R0.len, hle]
  have cm : ∀ {i : Nat} {t : Bt} {ds : List PyData}, i ∈ vs → δ0[i]? ≠ some (.bx t ds) := fun {i t ds} hi e => by
    unfold calmD at hc
    have := List.all_eq_true.mp hc i hi
    rw [e] at this
    cases this
  have rd : ∀ {i : Nat} {s : Sl}, ¬ (i ∈ vs ∧ i < δ.length) → δ[i]? = some s → (wipeD δ vs)[i]? = some s ∧ (L2.wipe σ vs)[i]? = σ[i]? := fun {i s} hn e => ⟨by rw [wipeD_get, if_neg hn]; exact e, by rw [wipe_get, if_neg (by rw [sl]; exact hn)]⟩
  refine ⟨R.sub, by rw [unwipe_len]; exact sl, fun i s e => ?_, fun i j p tt uu ds es h1 h2 h3 h4 => ?_, R.inv⟩
  · rw [unwipe_get] at e
    split at e
    · rename_i hi
      cases h0 : δ0[i]? with
      | none => rw [h0] at e; cases e; trivial
      | some s0 =>
        rw [h0] at e; cases e
        refine (R0.slot i s0 h0).same sg (fun p t ws ds e => absurd (by rw [← e]; exact h0) (cm (t := t) (ds := ds) hi.1)) fun x p e => ?_
        unfold calmD at hc
        have := List.all_eq_true.mp hc i hi.1
        rw [h0, e] at this
        cases this
    · rename_i hn
      obtain ⟨w1, w2⟩ := rd hn e
      rw [← w2]
      exact R.slot i s w1
  · have pick : ∀ {k : Nat} {t : Bt} {d : List PyData}, (CK.unwipe δ0 δ vs)[k]? = some (.bx t d) → ¬ (k ∈ vs ∧ k < δ.length) ∧ δ[k]? = some (.bx t d) := fun {k t d} e => by
      rw [unwipe_get] at e
      split at e
      · rename_i hk
        cases h0 : δ0[k]? with
        | none => rw [h0] at e; cases e
        | some s0 =>
          rw [h0] at e; cases e
          exact absurd h0 (cm hk.1)
      · rename_i hk; exact ⟨hk, e⟩
    obtain ⟨n1, k1⟩ := pick h2
    obtain ⟨n2, k2⟩ := pick h4
    obtain ⟨w1, w2⟩ := rd n1 k1
    obtain ⟨w3, w4⟩ := rd n2 k2
    exact R.inj i j p tt uu ds es (by rw [w2]; exact h1) w1 (by rw [w4]; exact h3) w3
theorem own_unwipe {vs : List Nat} {G0 H0 : Hp} {a : Addr} (R0 : Rel K G0 H0 σ δ0) (hc : calmD δ0 vs = true) (hle : δ0.length = δ.length) (h : Own σ (CK.unwipe δ0 δ vs) a) : Own (L2.wipe σ vs) (wipeD δ vs) a := by
  obtain ⟨i, t, ds, h1, h2⟩ := h
  have sl : σ.length = δ.length := by rw [R0.len, hle]
  rw [unwipe_get] at h2
  split at h2
  · rename_i hk
    cases h0 : δ0[i]? with
    | none => rw [h0] at h2; cases h2
    | some s0 =>
      rw [h0] at h2; cases h2
      unfold calmD at hc
      have := List.all_eq_true.mp hc i hk.1
      rw [h0] at this
      cases this
  · rename_i hn
    exact ⟨i, t, ds, by rw [wipe_get, if_neg (by rw [sl]; exact hn)]; exact h1, by rw [wipeD_get, if_neg hn]; exact h2⟩
end
theorem of_ite0 {c : Prop} [Decidable c] {α : Type} {x : Option α} {z : α} (h : (if c then x else none) = some z) : c ∧ x = some z := by
  by_cases hc : c
  · rw [if_pos hc] at h; exact ⟨hc, h⟩
  · rw [if_neg hc] at h; cases h
/-- all slots but the block's own -/
def outs (n : Nat) (vs : List Nat) : List Nat := (List.range n).filter fun i => !vs.contains i
theorem outs_mem {n : Nat} {vs : List Nat} {i : Nat} (h : i < n) (hn : i ∉ vs) : i ∈ outs n vs := by
  unfold outs
  rw [List.mem_filter]
  refine ⟨List.mem_range.mpr h, ?_⟩
  rw [List.contains_eq_mem, decide_eq_false hn]
  rfl
section
variable {K : PySem.W.Frag} {G H : Hp} {σ σ' : SS} {δ δ' δ0 : List Sl}
theorem pin_wipe {vs : List Nat} {n : Nat} (hn : σ.length ≤ n) (hl : σ'.length = σ.length) (p : Pin (outs n vs) (L2.wipe σ vs) σ') : L2.wipe σ' vs = L2.wipe σ vs := by
  apply List.ext_getElem?
  intro i
  rw [wipe_get, wipe_get, hl]
  by_cases hi : i ∈ vs ∧ i < σ.length
  · rw [if_pos hi, if_pos hi]
  · rw [if_neg hi, if_neg hi]
    by_cases hlt : i < σ.length
    · have hv : i ∉ vs := fun z => hi ⟨z, hlt⟩
      have := p i (outs_mem (Nat.lt_of_lt_of_le hlt hn) hv)
      rw [this, wipe_get, if_neg hi]
    · rw [List.getElem?_eq_none (by omega), List.getElem?_eq_none (by omega)]
theorem Rel.poke (R : Rel K G H σ δ) {a : Addr} {o : HO} {ws : List V} (hl : H a = some (.lst ws)) (hg : G a = none) (hn : ¬ Own σ δ a) : Rel K G (upd H a o) σ δ :=
  ⟨fun b u e => by
    have : b ≠ a := fun z => by rw [z, hg] at e; cases e
    rw [upd_ne this]; exact R.sub _ _ e, R.len, fun i s e => (R.slot i s e).same (Same.refl _) (fun p t ws ds hs h1 h2 h3 => ⟨by
      have : p ≠ a := fun z => hn ⟨i, t, ds, by rw [← z]; exact getD_some h3, by rw [e, hs]⟩
      exact h1.upd this, h2⟩) (mSt (Same.refl _) gn_refl (stay_chg fun u e => by rw [hl] at e; cases e; exact .inl ⟨_, rfl⟩)), R.inj, jL R.inv hl⟩
theorem Stp.poke {G0 H0 : Hp} {σ0 : SS} (st : Stp σ0 δ0 G0 H0 σ δ G H) {a : Addr} {o : HO} (h0 : H0 a = none) : Stp σ0 δ0 G0 H0 σ δ G (upd H a o) :=
  ⟨fun b u e n => by
    have : b ≠ a := fun z => by rw [z, h0] at e; cases e
    exact ⟨fun nv => by rw [upd_ne this]; exact (st.keep b u e n).1 nv, (st.keep b u e n).2⟩, fun b e => by
    by_cases z : b = a
    · rw [z]; exact h0
    · rw [upd_ne z] at e; exact st.dom b e, st.same, st.grow⟩
theorem Stp.own_end {G0 H0 : Hp} {σ0 : SS} {σ2 : SS} {δ2 : List Sl} (st : Stp σ0 δ0 G0 H0 σ δ G H) (h : ∀ a, Own σ2 δ2 a → Own σ δ a) : Stp σ0 δ0 G0 H0 σ2 δ2 G H :=
  ⟨fun b u e n => ⟨(st.keep b u e n).1, fun z => (st.keep b u e n).2 (h b z)⟩, st.dom, st.same, st.grow⟩
theorem Stp.own_start {G0 H0 : Hp} {σ0 : SS} {σ2 : SS} {δ2 : List Sl} (st : Stp σ0 δ0 G0 H0 σ δ G H) (h : ∀ a, Own σ0 δ0 a → Own σ2 δ2 a) : Stp σ2 δ2 G0 H0 σ δ G H :=
  ⟨fun b u e n => st.keep b u e fun z => n (h b z), st.dom, st.same, fun b u e => by
    rcases st.grow b u e with z | z | z
    · exact .inl z
    · exact .inr (.inl z)
    · exact .inr (.inr (h b z))⟩
end
def dLc' (n : Nat) (I : It') (tg : Tg) (c : Tt) (F : Ex) (vs : List Nat) : Ex := fun δ => if δ.length ≤ n then dLc I tg c F vs δ else none
theorem lc_go {K : PySem.W.Frag} {I : It'} {tg : Tg} {c : Tt} {F : Ex} {vs : List Nat} {n : Nat} {σ : SS} {H : Hp} {Q : VK} (hg : ∀ d δ δ', tg d δ = some δ' → δ'.length = δ.length)
    (h : tD K (dLc' n I tg c F vs) σ H Q) : tLc (tI K I) (tG K (outs n vs) tg) (tT K c) (tD K F) vs σ H Q := by
  obtain ⟨G, δ, r, δ', R, e, q⟩ := h
  unfold dLc' at e
  obtain ⟨hln, e⟩ := of_ite0 e
  obtain ⟨⟨items, δ1⟩, e1, e⟩ := bind_some_of e
  obtain ⟨hc, e⟩ := of_ite0 e
  obtain ⟨⟨accF, δF⟩, e2, e⟩ := bind_some_of e
  cases e
  refine ⟨G, δ, items, δ1, R, e1, fun J G1 H1 R1 st1 wk D hD => ?_⟩
  have slen : σ.length ≤ n := by rw [R.len]; exact hln
  have RW0 : Rel K G1 H1 (L2.wipe σ vs) (wipeD δ1 vs) := R1.wipe rfl
  refine ⟨fun i m H' => m = items.length - i ∧ i ≤ items.length ∧ ∃ (G2 : Hp) (δ2 : List Sl) (acc : List PyData) (ws : List V), Rel K G2 H' (L2.wipe σ vs) (wipeD δ2 vs) ∧ Same G1 G2 ∧ δ2.length = δ1.length ∧ H' D = some (.lst ws) ∧ G2 D = none ∧ RpAll K G2 ws acc ∧
      ¬ Own (L2.wipe σ vs) (wipeD δ2 vs) D ∧ Stp (L2.wipe σ vs) (wipeD δ1 vs) G1 H1 (L2.wipe σ vs) (wipeD δ2 vs) G2 H' ∧ lcD tg c F vs (items.drop i) acc δ2 = some (accF, δF),
    ⟨items.length, by simp, Nat.zero_le _, G1, δ1, [], [], RW0.new hD, Same.refl _, rfl, upd_same, gfree R1.sub hD, .nil, RW0.freeOwn hD, Stp.new hD, e2⟩, ?_⟩
  rintro i m H2 ⟨rfl, hi, G2, δ2, acc, ws, R2, sg, dl, hD2, gD2, ra, no2, st2, el⟩
  by_cases hlt : i < items.length
  · refine .inr ⟨wk.go i G2 H2 sg R2.sub hlt, fun H3 => ∃ (G2 : Hp) (δ2 : List Sl) (acc : List PyData) (ws : List V), Rel K G2 H3 (L2.wipe σ vs) (wipeD δ2 vs) ∧ Same G1 G2 ∧ δ2.length = δ1.length ∧ H3 D = some (.lst ws) ∧ G2 D = none ∧ RpAll K G2 ws acc ∧
      ¬ Own (L2.wipe σ vs) (wipeD δ2 vs) D ∧ Stp (L2.wipe σ vs) (wipeD δ1 vs) G1 H1 (L2.wipe σ vs) (wipeD δ2 vs) G2 H3 ∧ lcD tg c F vs (items.drop (i + 1)) acc δ2 = some (accF, δF), fun H3 h => ⟨items.length - (i + 1), by omega, rfl, hlt, h⟩, fun x H3 y => ?_⟩
    obtain ⟨d, hd, hy⟩ := wk.yld i G2 H2 x H3 sg R2.sub hlt y
    rw [drop_of hd] at el
    obtain ⟨δ3, e3, el⟩ := bind_some_of el
    obtain ⟨⟨b, δ4⟩, e4, el⟩ := bind_some_of el
    -- the state ahead of the turn's store: as it was, or with the new pair
    obtain ⟨G3, R3, st3, rp⟩ : ∃ G3 : Hp, Rel K G3 H3 (L2.wipe σ vs) (wipeD δ2 vs) ∧ Stp (L2.wipe σ vs) (wipeD δ2 vs) G2 H2 (L2.wipe σ vs) (wipeD δ2 vs) G3 H3 ∧ Rp K G3 x d := by
      rcases hy with ⟨rfl, rp⟩ | ⟨T, wt, ds, rfl, rfl, hT, rfl, rt⟩
      · exact ⟨G2, R2, Stp.refl, rp⟩
      · obtain ⟨R3, sg3⟩ := R2.newS (o := .tup wt) hT
        exact ⟨_, R3, (Stp.new (G := G2) hT).share hT (gfree R2.sub hT), .tup (SqT.of upd_same) (rt.same sg3)⟩
    refine ⟨G3, wipeD δ2 vs, d, δ3, R3, rp, e3, fun σ4 R4 st4 p4 => ?_⟩
    have hl4 : σ4.length = σ.length := by rw [R4.len, hg _ _ _ e3, wipeD_len, dl, ← R1.len]
    have hw : L2.wipe σ4 vs = L2.wipe σ vs := pin_wipe slen hl4 p4
    refine ⟨hw, tT_bind R4 e4 fun G5 H5 R5 st5 => ?_⟩
    have stA := ((st2.trans st3).trans st4).trans st5
    have keepD : ∀ {σx : SS} {δx : List Sl} {Gx Hx : Hp}, Stp (L2.wipe σ vs) (wipeD δ2 vs) G2 H2 σx δx Gx Hx → Hx D = some (.lst ws) ∧ ¬ Own σx δx D ∧ Gx D = none := fun {σx δx Gx Hx} st => by
      obtain ⟨k1, k2⟩ := st.keep D _ hD2 no2
      refine ⟨k1 fun z => volL z.1, k2, ?_⟩
      cases hx : Gx D with
      | none => rfl
      | some u =>
        rcases st.grow D u hx with z | z | z
        · rw [gD2] at z; cases z
        · rw [hD2] at z; cases z
        · exact absurd z no2
    have dl4 : δ4.length = δ1.length := by rw [← R5.len, hl4, ← R1.len]
    cases b with
    | false =>
      rw [if_neg Bool.false_ne_true] at el ⊢
      obtain ⟨k1, k2, k3⟩ := keepD ((st3.trans st4).trans st5)
      exact ⟨G5, δ4, acc, ws, R5.wipe hw, (((sg.trans st3.same).trans st4.same).trans st5.same), dl4, k1, k3, ra.same ((st3.same.trans st4.same).trans st5.same), fun z => k2 (own_wipe R5 (by rw [hw]; exact z)), stA.own_end fun a z => own_wipe R5 (by rw [hw]; exact z), el⟩
    | true =>
      rw [if_pos rfl] at el ⊢
      obtain ⟨⟨r6, δ6⟩, e6, el⟩ := bind_some_of el
      obtain ⟨dv, e7, el⟩ := bind_some_of el
      obtain ⟨hlen, el⟩ := of_ite0 el
      refine tD_run R5 e6 fun v G6 H6 R6 st6 rv => ?_
      obtain ⟨G7, R7, st7, sg7, rp7⟩ := RV.shared R6 st6 rv e7
      obtain ⟨k1, k2, k3⟩ := keepD (((st3.trans st4).trans st5).trans st7)
      refine ⟨ws, k1, by rw [ra.length]; exact hlen, ?_⟩
      have dl6 : δ6.length = δ1.length := by rw [← R7.len, hl4, ← R1.len]
      have sgA := ((st3.same.trans st4.same).trans st5.same).trans st7.same
      have R8 := (R7.poke (a := D) (o := .lst (ws ++ [v])) k1 k3 k2).wipe hw
      refine ⟨G7, δ6, acc ++ [dv], ws ++ [v], R8, sg.trans sgA, dl6, upd_same, k3, (ra.same sgA).append (.cons rp7 .nil), fun z => k2 (own_wipe R7 (by rw [hw]; exact z)), ?_, el⟩
      exact ((stA.trans st7).own_end fun a z => own_wipe R7 (by rw [hw]; exact z)).poke hD
  · have e0 : i = items.length := by omega
    subst e0
    rw [List.drop_length] at el
    cases el
    refine .inl ⟨wk.stop _ G2 H2 sg R2.sub (Nat.le_refl _), ?_⟩
    have stE : Stp σ δ1 G1 H1 σ (unwipe δ1 δF vs) G2 H2 := (st2.own_start fun a z => own_wipe R1 z).own_end fun a z => own_unwipe R1 hc dl.symm z
    exact q (.ref D) G2 H2 (Rel.unwipe R1 hc sg dl.symm R2) (st1.trans stE) ⟨D, ws, rfl, hD2, gD2, fun z => no2 (own_unwipe R1 hc dl.symm z), st1.dom D hD, ra⟩
end CK
namespace CK
open PySem PySem.Spec PyProof.Rows L2
variable [Memo]
def charD (s : Str) : List PyData := s.cps.toList.map fun c => .str ⟨#[c]⟩
def seqD : PyData → Option (List PyData)
  | .list ds => some ds
  | .tuple ds => some ds
  | .str s => some (charD s)
  | _ => none
def itSeq (F : Ex) : It' := fun δ => (F δ).bind fun x => x.1.sh.bind fun d => (seqD d).bind fun ds => some (ds, x.2)
theorem PI.or {X : Cx} {tg e : Expr} {t t' : TI} (h : PI X tg e t) (h' : PI X tg e t') : PI X tg e (fun σ H R => t σ H R ∨ t' σ H R) := ⟨fun pins s σ H R I q => by
  rcases q with q | q
  · exact h.run pins s σ H R I q
  · exact h'.run pins s σ H R I q⟩
section
variable {K : PySem.W.Frag} {G : Hp}
theorem walks_list {a : Addr} {xs : List V} {ds : List PyData} (h : SqL K G a xs) (r : RpAll K G xs ds) : Walks K (Itl K a) G ds where
  go := fun i G2 H s1 s2 hi => ⟨xs, xs[i]'(by rw [r.length]; exact hi), Same.seq (s1.trans s2) h, List.getElem?_eq_getElem _⟩
  stop := fun i G2 H s1 s2 hi => ⟨xs, Same.seq (s1.trans s2) h, by rw [r.length]; exact hi⟩
  yld := fun i G2 H x H' s1 s2 hi y => by
    obtain ⟨e, y⟩ := y
    have e1 := y xs (Same.seq (s1.trans s2) h)
    obtain ⟨d, e2, rp⟩ := r.get' e1
    exact ⟨d, e2, .inl ⟨e, rp.same s1⟩⟩
theorem walks_tup {a : Addr} {xs : List V} {ds : List PyData} (h : SqT K G a xs) (r : RpAll K G xs ds) : Walks K (Itt K a) G ds where
  go := fun i G2 H s1 s2 hi => ⟨xs, xs[i]'(by rw [r.length]; exact hi), sqT_same (s1.trans s2) h, List.getElem?_eq_getElem _⟩
  stop := fun i G2 H s1 s2 hi => ⟨xs, sqT_same (s1.trans s2) h, by rw [r.length]; exact hi⟩
  yld := fun i G2 H x H' s1 s2 hi y => by
    obtain ⟨e, y⟩ := y
    have e1 := y xs (sqT_same (s1.trans s2) h)
    obtain ⟨d, e2, rp⟩ := r.get' e1
    exact ⟨d, e2, .inl ⟨e, rp.same s1⟩⟩
theorem walks_str {s : Str} : Walks K (Its s) G (charD s) where
  go := fun i G2 H s1 s2 hi => by
    unfold charD at hi
    simpa [Its] using hi
  stop := fun i G2 H s1 s2 hi => by
    unfold charD at hi
    simpa [Its] using hi
  yld := fun i G2 H x H' s1 s2 hi y => by
    obtain ⟨e, c, e1, e2⟩ := y
    subst e2
    refine ⟨.str ⟨#[c]⟩, ?_, .inl ⟨e, .str _⟩⟩
    unfold charD
    rw [List.getElem?_map, Array.getElem?_toList, e1]
    rfl
def rangeD (lo c : Int) (n : Nat) : List PyData := (List.range n).map fun k => .int (lo + (k : Nat) * c)
theorem walks_rng {lo : Int} {n : Nat} : Walks K (Itr lo n) G (rangeD lo 1 n) where
  go := fun i G2 H s1 s2 hi => by
    unfold rangeD at hi
    simpa [Itr] using hi
  stop := fun i G2 H s1 s2 hi => by
    unfold rangeD at hi
    simpa [Itr] using hi
  yld := fun i G2 H x H' s1 s2 hi y => by
    obtain ⟨e, e2⟩ := y
    subst e2
    have hi' : i < n := by simpa [rangeD] using hi
    refine ⟨.int (lo + i), ?_, .inl ⟨e, .int _⟩⟩
    unfold rangeD
    rw [List.getElem?_map, List.getElem?_range hi']
    simp
theorem walks_rngc {lo c : Int} {n : Nat} : Walks K (Itc lo c n) G (rangeD lo c n) where
  go := fun i G2 H s1 s2 hi => by
    unfold rangeD at hi
    simpa [Itc] using hi
  stop := fun i G2 H s1 s2 hi => by
    unfold rangeD at hi
    simpa [Itc] using hi
  yld := fun i G2 H x H' s1 s2 hi y => by
    obtain ⟨e, e2⟩ := y
    subst e2
    have hi' : i < n := by simpa [rangeD] using hi
    refine ⟨.int (lo + (i : Nat) * c), ?_, .inl ⟨e, .int _⟩⟩
    unfold rangeD
    rw [List.getElem?_map, List.getElem?_range hi']
    simp
/-- enumerate -/
def enumD (ds : List PyData) : List PyData := ds.zipIdx.map fun p => .tuple [.int (p.2 : Nat), p.1]
def zipD (ds es : List PyData) : List PyData := List.zipWith (fun d e => .tuple [d, e]) ds es
end
section
variable {X : Cx} {tg e : Expr} {F : Ex} {pos p : Pos}
theorem di_seq (h : DE X e F) : DI X tg e (itSeq F) := PI.by (PI.or (pi_list h) (PI.or (pi_tup h) (pi_str h))) fun σ H R hh => by
  obtain ⟨G, δ, items, δ', Rl, e, q⟩ := hh
  obtain ⟨⟨r, δ1⟩, e1, e⟩ := bind_some_of e
  obtain ⟨d, e2, e⟩ := bind_some_of e
  obtain ⟨ds, e3, e⟩ := bind_some_of e
  cases e
  unfold seqD at e3
  split at e3
  · cases e3
    refine .inl (tD_run Rl e1 fun v G' H' R' st rv => ?_)
    obtain ⟨G2, R2, st2, _, rp⟩ := RV.shared R' st rv e2
    cases rp with
    | lst hl ra => exact ⟨_, rfl, ⟨_, SqL.of (R2.sub _ _ hl)⟩, q _ G2 H' R2 st2 (walks_list (SqL.of hl) ra)⟩
  · cases e3
    refine .inr (.inl (tD_run Rl e1 fun v G' H' R' st rv => ?_))
    obtain ⟨G2, R2, st2, _, rp⟩ := RV.shared R' st rv e2
    cases rp with
    | tup hl ra => exact ⟨_, rfl, ⟨_, sqT_same R2.sub hl⟩, q _ G2 H' R2 st2 (walks_tup hl ra)⟩
  · cases e3
    refine .inr (.inr (tD_run Rl e1 fun v G' H' R' st rv => ?_))
    obtain ⟨G2, R2, st2, _, rp⟩ := RV.shared R' st rv e2
    cases rp
    exact ⟨_, rfl, q _ G2 H' R2 st2 walks_str⟩
  · cases e3
/-- an int argument -/
def intOf : Sl → Option Int
  | .im (.int j) => some j
  | _ => none
theorem int_rv {K : PySem.W.Frag} {G H Hs : Hp} {σ : SS} {δ : List Sl} {v : V} {r : Sl} {b : Int} (h : RV K G H Hs σ δ v r) (e : intOf r = some b) : v = .int b := by
  unfold intOf at e
  split at e
  · cases e
    cases h; rfl
  · cases e
abbrev P62 : Int := 4611686018427387904
def itR1 (F : Ex) : It' := fun δ => (F δ).bind fun x => (intOf x.1).bind fun j => if -P62 ≤ j ∧ j < P62 then some (rangeD 0 1 j.toNat, x.2) else none
theorem di_range1 {a : Expr} (h : DE X a F) (hg : Gl X "range") (hm : X.mg "range" = none) (hs : starEach [a] X.env = [(false, eval a X.env)] := by rfl) : DI X tg (.Call (.Name "range" p) [a] [] pos) (itR1 F) :=
  PI.by (pi_range1 hg hm (pa_cons h pa_nil (by rw [hs]; rfl)) hs) fun σ H R hh => by
  obtain ⟨G, δ, items, δ', Rl, e, q⟩ := hh
  obtain ⟨⟨r, δ1⟩, e1, e⟩ := bind_some_of e
  obtain ⟨j, e2, e⟩ := bind_some_of e
  obtain ⟨⟨h1, h2⟩, e⟩ := of_ite e
  cases e
  exact tD_run Rl e1 fun v G' H' R' st rv => ⟨j, by rw [int_rv rv e2], h1, h2, q _ G' H' R' st walks_rng⟩
def itR2 (F F2 : Ex) : It' := fun δ => (F δ).bind fun x => (intOf x.1).bind fun i => (F2 x.2).bind fun y => (intOf y.1).bind fun j => if -P62 ≤ i ∧ i < P62 ∧ -P62 ≤ j ∧ j < P62 then some (rangeD i 1 (j - i).toNat, y.2) else none
/-- range with three arguments -/
def r3D (i j c : Int) : Option (List PyData) := if c = -1 ∧ -P62 ≤ i ∧ i < P62 ∧ -P62 ≤ j ∧ j < P62 then some (rangeD i (-1) (i - j).toNat) else none
def itR3 (F F2 F3 : Ex) : It' := fun δ => (F δ).bind fun x => (intOf x.1).bind fun i => (F2 x.2).bind fun y => (intOf y.1).bind fun j => (F3 y.2).bind fun z => (intOf z.1).bind fun c => (r3D i j c).bind fun ds => some (ds, z.2)
theorem di_range3 {a b c : Expr} {F2 F3 : Ex} (h : DE X a F) (h2 : DE X b F2) (h3 : DE X c F3) (hg : Gl X "range") (hm : X.mg "range" = none) (hs : starEach [a, b, c] X.env = (false, eval a X.env) :: starEach [b, c] X.env := by rfl)
    (hs2 : starEach [b, c] X.env = (false, eval b X.env) :: starEach [c] X.env := by rfl) (hs3 : starEach [c] X.env = (false, eval c X.env) :: starEach [] X.env := by rfl) (hpl : (backTo pos (starEach [b, c] X.env)).any (·.1) = false := by rfl) :
    DI X tg (.Call (.Name "range" p) [a, b, c] [] pos) (itR3 F F2 F3) :=
  PI.by (pi_range3 hg hm (pa_cons h (pa_cons h2 (pa_cons h3 pa_nil hs3) hs2) hs) hs hpl) fun σ H R hh => by
  obtain ⟨G, δ, items, δ', Rl, e, q⟩ := hh
  obtain ⟨⟨r, δ1⟩, e1, e⟩ := bind_some_of e
  obtain ⟨i, e2, e⟩ := bind_some_of e
  obtain ⟨⟨r3, δ3⟩, e3, e⟩ := bind_some_of e
  obtain ⟨j, e4, e⟩ := bind_some_of e
  obtain ⟨⟨r5, δ5⟩, e5, e⟩ := bind_some_of e
  obtain ⟨k, e6, e⟩ := bind_some_of e
  obtain ⟨ds, e7, e⟩ := bind_some_of e
  cases e
  unfold r3D at e7
  obtain ⟨⟨rfl, h1, h2, h3, h4⟩, rfl⟩ := of_ite e7
  exact tD_run Rl e1 fun v G' H' R' st rv => tD_run R' e3 fun v2 G2 H2 R2 st2 rv2 => tD_run R2 e5 fun v3 G3 H3 R3 st3 rv3 =>
    ⟨i, j, -1, (i - j).toNat, by rw [int_rv rv e2, int_rv rv2 e4, int_rv rv3 e6], RgC.neg h1 h2 h3 h4, q _ G3 H3 R3 ((st.trans st2).trans st3) walks_rngc⟩
def itEn (F : Ex) : It' := fun δ => (F δ).bind fun x => x.1.sh.bind fun d => (match d with | .list ds => some (enumD ds) | _ => none).bind fun ds => some (ds, x.2)
def itZip (F F2 : Ex) : It' := fun δ => (F δ).bind fun x => x.1.sh.bind fun d => (F2 x.2).bind fun y => y.1.sh.bind fun e => (match d, e with | .list ds, .list es => some (zipD ds es) | _, _ => none).bind fun ds => some (ds, y.2)
variable {elts : List Expr} {kk : Nat} {tpos : Pos}
theorem tgN_keep {i : Nat} : ∀ d δ δ', tgN i d δ = some δ' → δ'.length = δ.length := fun d δ δ' h => by
  cases h
  simp
def tTrue : Tt := fun δ => some (true, δ)
abbrev DTs (X : Cx) (ifs : List Expr) (c : Tt) : Prop := PTs X ifs (tT X.K c)
theorem dts_nil : DTs X [] tTrue := ⟨fun pins s σ H Q I h => (pts_nil (X := X)).run pins s σ H Q I (by
  obtain ⟨G, δ, b, δ', R, e, q⟩ := h
  cases e
  exact q G H R Stp.refl)⟩
theorem dts_one {c : Expr} {C : Tt} (h : DT X c C) : DTs X [c] C := pts_one h
theorem de_lc {elt iter : Expr} {ifs : List Expr} {scope : Scope} {own : List (Str × Nat)} {n : Nat} {I : It'} {t : Tg} {C : Tt} {pos : Pos} (hc : X.calm = true) (hN : X.N.Nodup) (hi : DI X tg iter I) (ok : BlkOk X.N X.env.scope scope own)
    (hg : ∀ (s : Shared) (H : Hp) (C : Addr) (cl : List (Str × Addr)) (fp : List Addr), PG (X.blk s H scope (compEnvC scope cl C X.env) fp) tg (tG X.K (outs n (own.map (·.2))) t)) (hk : ∀ d δ δ', t d δ = some δ' → δ'.length = δ.length)
    (ht : ∀ (s : Shared) (H : Hp) (A : Addr) (cl : List (Str × Addr)) (fp : List Addr), DTs (X.blk s H scope (compEnvC scope cl A X.env) fp) ifs C)
    (he : ∀ (s : Shared) (H : Hp) (C : Addr) (cl : List (Str × Addr)) (fp : List Addr), DE (X.blk s H scope (compEnvC scope cl C X.env) fp) elt F) (hs : ∀ x, foldedSetIterable iter X.env x = pure x := by intro _; rfl) :
    DE X (.ListComp elt [⟨tg, iter, ifs, 0⟩] scope pos) (dLc' n I t C F (own.map (·.2))) :=
  PE.by (pe_lc hc hN hi ok hg ht he hs) fun σ H Q h => lc_go hk h
end
end CK
namespace CK
open PySem PySem.Spec PyProof.Rows L2
variable [Memo]
inductive El where
  | one (F : Ex)
  | star (F : Ex)
def elE : List El → List Sl → Option (List PyData × List Sl)
  | [], δ => some ([], δ)
  | .one F :: r, δ => (F δ).bind fun x => x.1.sh.bind fun d => (elE r x.2).bind fun y => some (d :: y.1, y.2)
  | .star F :: r, δ => (F δ).bind fun x => x.1.sh.bind fun d => (match d with | .list ds => some ds | .tuple ds => some ds | _ => none).bind fun ds => (elE r x.2).bind fun y => some (ds ++ y.1, y.2)
def tEl (K : PySem.W.Frag) (as : List El) : TA := fun σ H Q => ∃ (G : Hp) (δ : List Sl) (ds : List PyData) (δ' : List Sl), Rel K G H σ δ ∧ elE as δ = some (ds, δ') ∧
  ∀ (vs : List V) (G' H' : Hp), Rel K G' H' σ δ' → Stp σ δ G H σ δ' G' H' → RpAll K G' vs ds → Q vs H'
abbrev DL (X : Cx) (es : List Expr) (as : List El) : Prop := PA X es (tEl X.K as)
section
variable {X : Cx} {e : Expr} {es : List Expr} {F : Ex} {as : List El} {pos p : Pos}
theorem dl_nil : DL X [] [] := PA.by pa_nil fun σ H Q h => by
  obtain ⟨G, δ, ps, δ', R, e, q⟩ := h
  cases e
  exact q [] G H R Stp.refl .nil
theorem dl_one (ha : DE X e F) (hr : DL X es as) (hs : starEach (e :: es) X.env = (false, eval e X.env) :: starEach es X.env := by rfl) : DL X (e :: es) (.one F :: as) := PA.by (pa_cons ha hr hs) fun σ H Q h => by
  obtain ⟨G, δ, ps, δ', R, e, q⟩ := h
  obtain ⟨⟨r, δ1⟩, e1, e⟩ := bind_some_of e
  obtain ⟨d, e2, e⟩ := bind_some_of e
  obtain ⟨⟨ds, δ2⟩, e3, e⟩ := bind_some_of e
  cases e
  refine tD_run R e1 fun v G1 H1 R1 st1 rv => ?_
  obtain ⟨G2, R2, st2, _, av⟩ := RV.shared R1 st1 rv e2
  exact ⟨G2, δ1, ds, _, R2, e3, fun vs G3 H3 R3 st3 aw => q (v :: vs) G3 H3 R3 (st2.trans st3) (.cons (av.same st3.same) aw)⟩
theorem dl_star (ha : DE X e F) (hr : DL X es as) (hs : starEach (.Starred e p :: es) X.env = (true, eval e X.env) :: starEach es X.env := by rfl) : DL X (.Starred e p :: es) (.star F :: as) := PA.by (StX.pa_star ha hr hs) fun σ H Q h => by
  obtain ⟨G, δ, ps, δ', R, e, q⟩ := h
  obtain ⟨⟨r, δ1⟩, e1, e⟩ := bind_some_of e
  obtain ⟨d, e2, e⟩ := bind_some_of e
  obtain ⟨ds0, e4, e⟩ := bind_some_of e
  obtain ⟨⟨ds, δ2⟩, e3, e⟩ := bind_some_of e
  cases e
  refine tD_run R e1 fun v G1 H1 R1 st1 rv => ?_
  obtain ⟨G2, R2, st2, _, av⟩ := RV.shared R1 st1 rv e2
  split at e4
  · cases e4
    cases av with
    | lst hl ra => exact ⟨_, _, rfl, .inr (SqL.of (R2.sub _ _ hl)), G2, δ1, ds, _, R2, e3, fun vs G3 H3 R3 st3 aw => q _ G3 H3 R3 (st2.trans st3) ((ra.same st3.same).append aw)⟩
  · cases e4
    cases av with
    | tup hl ra => exact ⟨_, _, rfl, .inl (sqT_same R2.sub hl), G2, δ1, ds, _, R2, e3, fun vs G3 H3 R3 st3 aw => q _ G3 H3 R3 (st2.trans st3) ((ra.same st3.same).append aw)⟩
  · cases e4
def dLst (as : List El) : Ex := fun δ => (elE as δ).bind fun x => if x.1.length ≤ LINE then some (.bx .l x.1, x.2) else none
def dTup (as : List El) : Ex := fun δ => (elE as δ).bind fun x => if x.1.length ≤ LINE then some (.im (.tuple x.1), x.2) else none
theorem de_lst (h : DL X es as) : DE X (.List es pos) (dLst as) := PE.by (pe_lst h) fun σ H Q hh => by
  obtain ⟨G, δ, r, δ', R, e, q⟩ := hh
  obtain ⟨⟨ds, δ1⟩, e1, e⟩ := bind_some_of e
  obtain ⟨hc, e⟩ := of_ite e
  cases e
  refine ⟨G, δ, ds, _, R, e1, fun vs G1 H1 R1 st1 ra => ⟨by rw [ra.length]; exact hc, fun p hp => ?_⟩⟩
  exact q (.ref p) G1 _ (R1.new hp) (st1.trans (Stp.new hp)) ⟨p, vs, rfl, upd_same, gfree R1.sub hp, R1.freeOwn hp, st1.dom p hp, ra⟩
theorem de_tup {k : Nat} (h : DL X es as) : DE X (.Tuple es k pos) (dTup as) := PE.by (pe_tup h) fun σ H Q hh => by
  obtain ⟨G, δ, r, δ', R, e, q⟩ := hh
  obtain ⟨⟨ds, δ1⟩, e1, e⟩ := bind_some_of e
  obtain ⟨hc, e⟩ := of_ite e
  cases e
  refine ⟨G, δ, ds, _, R, e1, fun vs G1 H1 R1 st1 ra => ⟨by rw [ra.length]; exact hc, fun p hp => ?_⟩⟩
  obtain ⟨R2, sg⟩ := R1.newS (o := .tup vs) hp
  exact q (.ref p) _ _ R2 ((st1.trans (Stp.new hp)).share (st1.dom p hp) (gfree R1.sub hp)) (.tup (SqT.of upd_same) (ra.same sg))
/-- values in a row, each as it lies -/
def esE : List Ex → List Sl → Option (List Sl × List Sl)
  | [], δ => some ([], δ)
  | F :: r, δ => (F δ).bind fun x => (esE r x.2).bind fun y => some (x.1 :: y.1, y.2)
def RVs (K : PySem.W.Frag) (G H : Hp) (σ : SS) (δ : List Sl) : Hp → List V → List Sl → Prop
  | _, [], [] => True
  | Hs, v :: vs, r :: rs => RV K G H Hs σ δ v r ∧ ∃ H1, (∀ a, H1 a = none → Hs a = none) ∧ (∀ p t ds, r = .bx t ds → v = .ref p → H1 p ≠ none) ∧ RVs K G H σ δ H1 vs rs
  | _, _, _ => False
def tEs (K : PySem.W.Frag) (as : List Ex) : TA := fun σ H Q => ∃ (G : Hp) (δ : List Sl) (rs : List Sl) (δ' : List Sl), Rel K G H σ δ ∧ esE as δ = some (rs, δ') ∧
  ∀ (vs : List V) (G' H' : Hp), Rel K G' H' σ δ' → Stp σ δ G H σ δ' G' H' → RVs K G' H' σ δ' H vs rs → Q vs H'
abbrev DEs (X : Cx) (es : List Expr) (as : List Ex) : Prop := PA X es (tEs X.K as)
theorem RV.step {K : PySem.W.Frag} {G H Hs G' H' : Hp} {σ : SS} {δ δ' : List Sl} {v : V} {r : Sl} (h : RV K G H Hs σ δ v r) (st : Stp σ δ G H σ δ' G' H') : RV K G' H' Hs σ δ' v r := by
  cases r with
  | no => exact h
  | im d => exact Rp.same st.same h
  | bx t ds =>
    obtain ⟨p, ws, h1, h2, h3, h4, h5, h6⟩ := h
    obtain ⟨o1, h2, nv, kb⟩ := h2.at
    obtain ⟨k1, k2⟩ := st.keep p _ h2 h4
    refine ⟨p, ws, h1, kb _ (k1 fun z => nv z.1), ?_, k2, h5, h6.same st.same⟩
    cases e : G' p with
    | none => rfl
    | some o =>
      rcases st.grow p o e with z | z | z
      · rw [h3] at z; cases z
      · rw [h2] at z; cases z
      · exact absurd z h4
  | fz ds =>
    obtain ⟨p, ws, h1, h2, h3⟩ := h
    exact ⟨p, ws, h1, Same.seq st.same h2, h3.same st.same⟩
  | raw u => exact h
  | mo x => exact h
theorem des_nil : DEs X [] [] := PA.by pa_nil fun σ H Q h => by
  obtain ⟨G, δ, ps, δ', R, e, q⟩ := h
  cases e
  exact q [] G H R Stp.refl trivial
theorem des_cons {fs : List Ex} (ha : DE X e F) (hr : DEs X es fs) (hs : starEach (e :: es) X.env = (false, eval e X.env) :: starEach es X.env := by rfl) : DEs X (e :: es) (F :: fs) := PA.by (pa_cons ha hr hs) fun σ H Q h => by
  obtain ⟨G, δ, ps, δ', R, e, q⟩ := h
  obtain ⟨⟨r, δ1⟩, e1, e⟩ := bind_some_of e
  obtain ⟨⟨rs, δ2⟩, e3, e⟩ := bind_some_of e
  cases e
  refine tD_run R e1 fun v G1 H1 R1 st1 rv => ?_
  refine ⟨G1, δ1, rs, _, R1, e3, fun vs G3 H3 R3 st3 aw => q (v :: vs) G3 H3 R3 (st1.trans st3) ⟨rv.step st3, H1, st1.dom, fun p t ds e2 e4 z => ?_, aw⟩⟩
  subst e2
  obtain ⟨p', ws, k1, k2, _⟩ := rv
  rw [e4] at k1
  cases k1
  exact k2.not z
/-- a, b = x, y with plain names -/
def sPar (i j : Nat) (F1 F2 : Ex) : Sm := fun δ => (F1 δ).bind fun x => (F2 x.2).bind fun y => some (.nx, (y.2.set i x.1).set j y.1)
def sPar3 (i j l : Nat) (F1 F2 F3 : Ex) : Sm := fun δ => (F1 δ).bind fun x => (F2 x.2).bind fun y => (F3 y.2).bind fun z => some (.nx, ((z.2.set i x.1).set j y.1).set l z.1)
theorem ds_par {P : List Nat} {i j : Nat} {x y : Str} {a b : Expr} {F1 F2 : Ex} {px py pt pos : Pos} {kt k2 pt2} (hc : X.calm = true) (hN : X.N.Nodup) (hi : X.N[i]? = some x) (hj : X.N[j]? = some y) (hij : i ≠ j)
    (hx : X.env.scope.names.lookup x = some .local) (hy : X.env.scope.names.lookup y = some .local) (ha : DEs X [a, b] [F1, F2])
    (hw : swappedStores [.Tuple [.Name x px, .Name y py] kt pt] (.Tuple [a, b] k2 pt2) X.env = pure (some [x, y])) (hpi : P.contains i = false := by rfl) (hpj : P.contains j = false := by rfl)
    (hs : swapsWithSole [.Tuple [.Name x px, .Name y py] kt pt] (.Tuple [a, b] k2 pt2) pos.line X.env = pure false := by rfl) :
    DS X P (.Assign [.Tuple [.Name x px, .Name y py] kt pt] (.Tuple [a, b] k2 pt2) pos) (sPar i j F1 F2) := PS.by (L2.ps_par hc hN hi hj hij hx hy ha hw hs) fun D σ H hh => by
  obtain ⟨G, δ, fl, δ', R, e, q⟩ := hh
  obtain ⟨⟨r1, δ1⟩, e1, e⟩ := bind_some_of e
  obtain ⟨⟨r2, δ2⟩, e2, e⟩ := bind_some_of e
  cases e
  refine ⟨G, δ, [r1, r2], δ2, R, by simp only [esE, e1, e2, Option.bind_some], fun vs G1 H1 R1 st1 ra => ?_⟩
  match vs, ra with
  | [v, w], ⟨rv1, Hm, m1, m2, rv2, _, _, _, _⟩ =>
    have A := R1.set (i := i) rv1.slot.1 fun p t ds e1 e2 => (rv1.slot.2 p t ds e1 e2).1
    have B := A.set (i := j) rv2.slot.1 fun p t ds e1 e2 z => by
      rcases own_set R1.len z with z | ⟨z, u', es, e3⟩
      · exact (rv2.slot.2 p t ds e1 e2).1 z
      · exact m2 p u' es e3 z (rv2.slot.2 p t ds e1 e2).2
    refine ⟨v, w, rfl, q _ G1 H1 B (Stp.setR A (Stp.setR R1 st1 fun p t ds e1 e2 => (rv1.slot.2 p t ds e1 e2).2) fun p t ds e1 e2 => m1 _ (rv2.slot.2 p t ds e1 e2).2) ((Pin.set hpi).trans (Pin.set hpj))⟩
end
def ixD : PyData → PyData → Option Sl
  | .list ds, .int i => (atI ds i).bind fun d => some (.im d)
  | .tuple ds, .int i => (atI ds i).bind fun d => some (.im d)
  | .str s, .int i => if s.length ≤ LINE then (atI s.cps.toList i).bind fun c => some (.im (.str ⟨#[c]⟩)) else none
  | _, _ => none
section
variable {K : PySem.W.Frag} {G : Hp}
theorem atI_rp {ws : List V} {ds : List PyData} {i : Int} {d : PyData} (r : RpAll K G ws ds) (h : atI ds i = some d) : ∃ v, atI ws i = some v ∧ Rp K G v d := by
  unfold atI at h ⊢
  rw [← r.length] at h
  cases e : ixN ws.length i with
  | none => rw [e] at h; cases h
  | some j =>
    rw [e] at h
    obtain ⟨v, e1, rp⟩ := r.get (show ds[j]? = some d from h)
    exact ⟨v, e1, rp⟩
end
section
variable {X : Cx} {a b e : Expr} {oa ob : Od} {F : Ex} {pos p : Pos}
theorem de_ix (ha : DO X a oa) (hb : DO X b ob) (hs : PlainIx b := by exact fun _ _ => rfl) : DE X (.Subscript a b pos) (dOp2 ixD oa ob) :=
  PE.by (pe_ix ix_seq ha.pe hb.pe hs) fun σ H Q h => od2 h fun G H1 δ v w d e z R r1 r2 e3 q => by
    unfold ixD at e3
    split at e3
    · obtain ⟨d, e4, e5⟩ := bind_some_of e3
      cases e5
      obtain ⟨p, ws, rfl, h1, ra⟩ := r1.lst R.sub
      obtain ⟨u, e6, rp⟩ := atI_rp ra e4
      exact .inl ⟨p, ws, _, u, rfl, r2.int, SqL.of h1, e6, Want.im q R rp⟩
    · obtain ⟨d, e4, e5⟩ := bind_some_of e3
      cases e5
      obtain ⟨p, ws, rfl, h1, ra⟩ := r1.tup R.sub
      obtain ⟨u, e6, rp⟩ := atI_rp ra e4
      exact .inr (.inl ⟨p, ws, _, u, rfl, r2.int, h1, e6, Want.im q R rp⟩)
    · obtain ⟨hc, e3⟩ := of_ite0 e3
      obtain ⟨c, e4, e5⟩ := bind_some_of e3
      cases e5
      exact .inr (.inr ⟨_, _, c, r1.str, r2.int, hc, e4, Want.str q R⟩)
    · cases e3
/-- an item of a list that is only read -/
def dIxF (i : Nat) (F : Ex) : Ex := fun δ => (match δ[i]? with | some (.fz ds) => some ds | _ => none).bind fun ds => (F δ).bind fun x => (intOf x.1).bind fun j => (match x.2[i]? with | some (.fz _) => some () | _ => none).bind fun _ => (atI ds j).bind fun d => some (.im d, x.2)
def cutD (ds : List PyData) (lo hi : Option Int) : List PyData := (ds.drop (HT.sIx ds.length 0 lo)).take (HT.sIx ds.length ds.length hi - HT.sIx ds.length 0 lo)
theorem cut_rp {K : PySem.W.Frag} {G : Hp} {ws : List V} {ds : List PyData} {lo hi : Option Int} (r : RpAll K G ws ds) : RpAll K G (cutV ws lo hi) (cutD ds lo hi) := by
  unfold cutV cutD
  rw [r.length]
  exact (r.drop _).take _
def slD (lo hi : Option Int) : PyData → Option Sl
  | .list ds => some (.bx .l (cutD ds lo hi))
  | .tuple ds => some (.im (.tuple (cutD ds lo hi)))
  | .str s => if s.length ≤ LINE then some (.im (.str (cutS s lo hi))) else none
  | _ => none
/-- an optional bound -/
def prt : Option Ex → List Sl → Option (Option Int × List Sl)
  | none, δ => some (none, δ)
  | some F, δ => (F δ).bind fun x => (intOf x.1).bind fun j => some (some j, x.2)
def dSl (a : Od) (lo hi : Option Ex) : Ex := fun δ => (a.fst δ).bind fun x => (prt lo x.2).bind fun l => (prt hi l.2).bind fun h => (a.snd x.1 h.2).bind fun d => (slD l.1 h.1 d).bind fun r => some (r, h.2)
def tPrt (K : PySem.W.Frag) : Option Ex → TO
  | none => tNoPart
  | some F => tPart (tD K F)
structure DP (X : Cx) (e : Option Expr) (F : Option Ex) : Prop where
  po : PO X e (tPrt X.K F)
theorem dp_none : DP X none none := ⟨po_none⟩
theorem dp_some (h : DE X e F) : DP X (some e) (some F) := ⟨po_some h⟩
theorem prt_run {K : PySem.W.Frag} {G H : Hp} {σ : SS} {δ δ' : List Sl} {F : Option Ex} {o : Option Int} {Q : Option Int → Hp → Prop} (R : Rel K G H σ δ) (e : prt F δ = some (o, δ')) (q : ∀ G' H', Rel K G' H' σ δ' → Stp σ δ G H σ δ' G' H' → Q o H') : tPrt K F σ H Q := by
  cases F with
  | none => cases e; exact q G H R Stp.refl
  | some F =>
    obtain ⟨⟨r, δ1⟩, e1, e⟩ := bind_some_of e
    obtain ⟨j, e2, e⟩ := bind_some_of e
    cases e
    exact tD_run R e1 fun v G' H' R' st rv => ⟨j, int_rv rv e2, q G' H' R' st⟩
theorem de_sl {lo hi : Option Expr} {fl fh : Option Ex} {p2 : Pos} (ha : DO X a oa) (hl : DP X lo fl) (hh : DP X hi fh) : DE X (.Subscript a (.Slice lo hi none p2) pos) (dSl oa fl fh) :=
  PE.by (pe_slice (SlR.or sl_list (SlR.or sl_tupA sl_str)) ha.pe hl.po hh.po) fun σ H Q h => by
    obtain ⟨G, δ, r, δ', R, e, q⟩ := h
    obtain ⟨⟨p, δ1⟩, e1, e⟩ := bind_some_of e
    obtain ⟨⟨l, δ2⟩, e2, e⟩ := bind_some_of e
    obtain ⟨⟨u, δ3⟩, e3, e⟩ := bind_some_of e
    obtain ⟨d, e4, e⟩ := bind_some_of e
    obtain ⟨z, e5, e⟩ := bind_some_of e
    cases e
    refine tO_run R e1 fun v G1 H1 R1 st1 ov => ?_
    refine prt_run R1 e2 fun G2 H2 R2 st2 => ?_
    refine prt_run R2 e3 fun G3 H3 R3 st3 => ?_
    have r1 := (ov.same (st2.trans st3).same).rt R3 e4
    have stA := st1.trans (st2.trans st3)
    unfold slD at e5
    split at e5
    · cases e5
      obtain ⟨p, ws, rfl, h1, ra⟩ := r1.lst R3.sub
      refine .inl ⟨p, ws, rfl, SqL.of h1, fun t ht => ?_⟩
      exact q _ G3 _ (R3.new ht) (stA.trans (Stp.new ht)) ⟨t, _, rfl, upd_same, gfree R3.sub ht, R3.freeOwn ht, stA.dom t ht, cut_rp ra⟩
    · rename_i _ ds2
      cases e5
      obtain ⟨p, ws, rfl, h1, ra⟩ := r1.tup R3.sub
      refine .inr (.inl ⟨p, ws, rfl, h1, fun hw => ?_, fun hw t ht => ?_⟩)
      · have e9 : cutD ds2 l u = ds2 := by
          unfold cutD
          rw [← ra.length, hw.1, hw.2, List.drop_zero, Nat.sub_zero, ra.length, List.take_length]
        rcases r1 with r1 | ⟨_, _, _, _, ee, _⟩
        · exact q _ G3 H3 R3 stA (show Rp X.K G3 _ (.tuple (cutD ds2 l u)) by rw [e9]; exact r1)
        · cases ee
      · obtain ⟨R4, sg⟩ := R3.newS (o := .tup (cutV ws l u)) ht
        exact q (.ref t) _ _ R4 ((stA.trans (Stp.new ht)).share (stA.dom t ht) (gfree R3.sub ht)) (.tup (SqT.of upd_same) ((cut_rp ra).same sg))
    · obtain ⟨hc, e5⟩ := of_ite e5
      cases e5
      exact .inr (.inr ⟨_, r1.str, hc, q _ G3 H3 R3 stA (.str _)⟩)
    · cases e5
/-- xs[::-1] -/
def revD : PyData → Option Sl
  | .list ds => some (.bx .l ds.reverse)
  | _ => none
end
end CK
namespace CK
open PySem PySem.Spec PyProof.Rows L2
variable [Memo]
/-- a def keeps its promise wherever no guard stands -/
structure FnG (P : Program) (w : World) (K : PySem.W.Frag) (mg : Str → Option Value) (base : Heap) (CT : CXT) (k : Nat) (f : Addr) (fd : FuncData) (ps : List Str) (sp : Sp) : Prop where
  arity : ∀ vs H Q E, sp vs H Q E → vs.length = ps.length
  go : ∀ (A : Around) (outer : List Env) (s : Shared) (H : Hp) (args : Args) (us : List Value) (vs : List V) (Q : VK) (E : XK),
    A.guards = some [] → Room k A → Env0 P w K mg base A outer s H → BindsTo s fd args (ps.zip us) → Vals vs us → sp vs H Q E →
      codeAny (model P w) A (.call (.ref f) args) (CR CT outer P w H s Q E) s
theorem FnG.mono {P : Program} {w : World} {K : PySem.W.Frag} {mg : Str → Option Value} {base : Heap} {CT : CXT} {j k : Nat} {f : Addr} {fd : FuncData} {ps : List Str} {sp : Sp}
    (F : FnG P w K mg base CT j f fd ps sp) (h : j ≤ k) : FnG P w K mg base CT k f fd ps sp :=
  ⟨F.arity, fun A outer s H args us vs Q E hg hr => F.go A outer s H args us vs Q E hg (hr.mono h)⟩
section
variable {X : Cx} {CT : CXT} {k : Nat} {f : Addr} {fd : FuncData} {ps : List Str} {sp : Sp} {E : XK} {x : Str} {p pos : Pos} {e : Expr} {es : List Expr} {t : TA}
/-- how a callee's end comes back to the caller -/
theorem back_from {pins : List (Addr × Obj)} {σ : SS} {H : Hp} {s s' : Shared} {Q : VK} {r : Result} (hx : Passes CT X E) (I : Inv X pins σ H s) (hq : CR CT X.stack X.prog X.w H s Q E r s') :
    match r with
    | .ok (.ret u) => EP X pins σ Q u s'
    | .ok _ => False
    | .error e => X.xe e s' := by
  cases r with
  | error er => exact hx pins σ H s er s' I hq
  | ok fl =>
    cases fl with
    | ret u => exact I.after hq
    | next => exact hq.elim
    | brk => exact hq.elim
    | cont => exact hq.elim
theorem runG {pins : List (Addr × Obj)} {σ : SS} {H : Hp} {s : Shared} {Q : VK} {args : Args} {us : List Value} {vs : List V} {kw : List (Str × Value)} {ws : List Value}
    (hgd : X.A.guards = some []) (F : FnG X.prog X.w X.K X.mg X.base CT k f fd ps sp) (hr : Room k X.A) (hx : Passes CT X E) (I : Inv X pins σ H s)
    (hb : BindsTo s fd ⟨ws, kw⟩ (ps.zip us)) (r : Vals vs us) (h : sp vs H Q E) : wpAny (model X.prog X.w) X.A (call (.ref f) ws kw) (EP X pins σ Q) X.xe s := by
  refine wpAny_call (codeAny_mono (F.go X.A X.stack s H ⟨ws, kw⟩ us vs Q E hgd hr I.env0 hb r h) fun r s' hq => ?_)
  have z := back_from hx I hq
  cases r with
  | error er => exact z
  | ok fl =>
    cases fl with
    | ret u => exact z
    | next => exact z.elim
    | brk => exact z.elim
    | cont => exact z.elim
/-- f(e, ..): every parameter given by place -/
theorem pe_callG (hgd : X.A.guards = some []) (F : FnG X.prog X.w X.K X.mg X.base CT k f fd ps sp) (hr : Room k X.A) (hg : Gl X x) (hm : X.mg x = some (.ref f)) (hk : PySem.W.keepIn X.K (.ref f) = true)
    (hb : Binds X.K fd ps []) (hx : Passes CT X E) (ha : PA X (e :: es) t) (hdb : (x == ("__debug__" : Str)) = false := by decide)
    (he : starEach (e :: es) X.env = (false, eval e X.env) :: starEach es X.env := by rfl) (hpl : (backTo pos (starEach es X.env)).any (·.1) = false := by rfl) :
    PE X (.Call (.Name x p) (e :: es) [] pos) (fun σ H Q => t σ H fun vs H1 => sp vs H1 Q E) := ⟨fun pins s σ H Q I h => by
  refine wpAny_Call_Name_kw (ld_glob I hg hm (PySem.W.callWith_K (h₀ := X.base) I.ok.mod.kin hk ?_ he hpl) hdb)
  refine thn (ha.run pos pins s σ H _ I h) fun us s1 ⟨vs, H1, I1, r, q⟩ => ⟨I1.kIn, ?_⟩
  have hl : (us ++ []).length = ps.length := by
    rw [List.append_nil, ← r.length]
    exact F.arity _ _ _ _ q
  have hbs := hb s1 us I1.kIn hl
  rw [List.append_nil] at hbs
  exact runG (args := ⟨us, []⟩) hgd F hr hx I1 hbs r q⟩
end
/-- a def of the text by its body -/
theorem fnG_of {CT : CXT} {P : Program} {w : World} {K : PySem.W.Frag} {mg : Str → Option Value} {base : Heap} {k : Nat} {f : Addr} {name qual : Str} {params : Arguments} {body : List Stmt} {scope : Scope} {dV kV doc pm cdv ct oc : Value} {an od : Option Addr}
    {osl : Array (Option Value)} {N ps : List Str} {sp : Sp} (lk : K.lookup f = some ⟨oc, od, .func (PySem.W.fnOf name qual params body scope dV kV doc pm an cdv ct), osl⟩)
    (hcd : PySem.W.codeIn K cdv qual = true) (S : FnScope N ps scope) (len : ∀ vs H Q E, sp vs H Q E → vs.length = ps.length)
    (hbody : ∀ (A : Around) (outer : List Env) (s : Shared) (H : Hp) (vs : List V) (Q : VK) (E : XK), A.guards = some [] → Room k (A.deeper (envOfC qual scope s.heap.objs.size f cdv)) → sp vs H Q E →
      ∃ t, PSs (cxOf CT P w K mg base N qual scope f cdv A outer s H E) body t ∧ t { nx := fun _ H' => Q .non H', rt := Q } (L2.start N vs) H) :
    FnG P w K mg base CT (k + 1) f (PySem.W.fnOf name qual params body scope dV kV doc pm an cdv ct) ps sp := by
  refine ⟨len, fun A outer s H args us vs Q E hgd hr en hb rl hsp => ?_⟩
  have stays : ∀ b o, base.get? b = some o → s.heap.get? b = some o := fun b o q => (en.bs b o q).1
  have KX : K.In s.heap := en.mod.kin.keeps stays
  have lim : s.heap.NoLimit := en.mod.nolimit.keeps stays
  have kinds : ∀ y ∈ ps.zip us, scope.names.lookup y.1 = some .local ∨
      (scope.names.lookup y.1 = some .cell ∧ ((cellsFrom (s.heap.objs.size + 1) scope.names []).lookup y.1).isSome = true) := by
    rintro ⟨n, v⟩ hy
    rcases S.par n (List.of_mem_zip hy).1 with z | z
    · exact .inl z
    · exact .inr ⟨z, PySem.W.cellsFrom_some _ _ _ (.inl z)⟩
  refine codeAny_call_function hr.depth (KX _ _ lk) rfl S.co S.gen rfl (PySem.W.codeRec_of KX hcd) (hb _ _ _ _ (wpAny_newFunctionEnv_cells S.kind kinds fun env he s1 x => ?_))
  subst he
  refine ⟨lim.keeps x.toInCall.keep, codeAny_func ?_⟩
  obtain ⟨t, ht, hq⟩ := hbody A outer s H vs Q E hgd (hr.deeper _) hsp
  have I0 := inv_start (CX := CT) (E := E) S hr.hd en (len _ _ _ _ hsp) rl x
  refine wpAny_mono (ht.run [] s1 (L2.start N vs) H _ I0 hq) (fun fl s' hs => ?_) fun _ _ z => z
  cases fl with
  | ret u =>
    obtain ⟨v, σ', H', J, rv, q⟩ := hs
    exact ⟨v, H', J.os, J.bare, J.base, J.hok, rv, q⟩
  | next =>
    obtain ⟨σ', H', J, q⟩ := hs
    exact ⟨V.non, H', J.os, J.bare, J.base, J.hok, (show RelV V.non Value.none from rfl), q⟩
  | brk => exact (hs.choose_spec.choose_spec.2).elim
  | cont => exact (hs.choose_spec.choose_spec.2).elim
/-- .. that lets nothing out -/
theorem okG {P : Program} {w : World} {K : PySem.W.Frag} {mg : Str → Option Value} {base : Heap} {x qual : Str} {st : Stmt} {f : Addr} {fd : FuncData} {N ps : List Str} {k n m : Nat} {Pn : List Nat} {S : Sm}
    (F : Fun K x qual st f fd) (Sc : FnScope N ps (defScope st)) (hn : ps.length = n) (hN : N.length = n + m) (hP : ∀ i ∈ Pn, i < n)
    (hbody : ∀ (cdv : Value) (A : Around) (outer : List Env) (s : Shared) (H : Hp) (E : XK), A.guards = some [] → Room k (A.deeper (envOfC qual (defScope st) s.heap.objs.size f cdv)) →
      DSs (cxOf CX0 P w K mg base N qual (defScope st) f cdv A outer s H E).nox Pn (defBody st) S) : FnG P w K mg base CX0 (k + 1) f fd ps (spD K n (fnD Pn m S)) := by
  obtain ⟨oc, od, kV, doc, pm, an, cdv, ct, osl, rfl, lk, hcd⟩ := F.ex
  refine fnG_of lk hcd Sc (fun vs H Q E h => h.1.trans hn.symm) fun A outer s H vs Q E hgd hr hsp => ?_
  exact ⟨_, (hbody cdv A outer s H E hgd hr).nox, fn_body hsp hN hP⟩
/-- the law's own end -/
theorem law_endG {P : Program} {w : World} {K : PySem.W.Frag} {mg mb : Str → Option Value} {CT : CXT} {k : Nat} {fa a : Addr} {fd : FuncData} {x : Str} {sp : Sp} {s1 : Shared} {vs : List Value} {ns : List Int}
    (KX : K.In s1.heap) (hns : s1.heap.Ns mainGlobals mg) (hb : s1.heap.Ns builtinsNs mb) (hbb : ∀ x : Str, x ≠ "__name__" → mb x = bootBuiltins x) (hlim : s1.heap.NoLimit) (hg : s1.gens = #[])
    (ha : s1.heap.get? a = some { cls := .type "list", data := .seq vs.toArray }) (hi : IntsAre vs ns) (hl : ns.length ≤ sizeLine) (hr : Room k callerA)
    (F : ∀ bs : Heap, K.In bs → bs.Ns mainGlobals mg → FnG P w K mg bs CT k fa fd [x] sp) (hbind : ∀ (s : Shared) (u : Value), BindsTo s fd ⟨[u], []⟩ [(x, u)])
    (hsp : ∀ H : Hp, Only H → SqL K H a (ns.map V.int) → sp [.ref a] H (fun v _ => v = .bl true) fun _ _ _ => False) (hCT : ∀ H e s', CT [] H s1 (fun _ _ _ => False) e s' → False) :
    codeAny (model P w) callerA (.call (.ref fa) ⟨[.ref a], []⟩) (fun r s' => r = .ok (.ret (.bool true)) ∧ OldK s1.heap s'.heap ∧ s'.os = s1.os ∧ AllBare s'.gens) s1 := by
  have rv := vals_ints hi
  -- in any abstract heap that tracks the script at most
  have at_heap : ∀ H : Hp, Only H → SqL K H a (ns.map V.int) → HOk P w H s1.heap → (∀ b, H b ≠ none → b = a) → (H a ≠ none → K.lookup a = none) →
      codeAny (model P w) callerA (.call (.ref fa) ⟨[.ref a], []⟩) (fun r s' => r = .ok (.ret (.bool true)) ∧ OldK s1.heap s'.heap ∧ s'.os = s1.os ∧ AllBare s'.gens) s1 := by
    intro H hO hS hok hA hK
    have untracked : ∀ {b : Addr} {o : Obj} {es : Array DictEntry} {ep : Nat}, s1.heap.get? b = some o → o.data = .dict es ep → H b = none := by
      intro b o es ep e1 d
      cases q : H b with
      | none => rfl
      | some u =>
        obtain rfl : b = a := hA b (by rw [q]; exact fun z => nomatch z)
        rw [ha] at e1
        cases e1
        exact nomatch d
    have names : ∀ {b : Addr} {m : Str → Option Value}, s1.heap.Ns b m → (hidT s1.heap H).Ns b m := by
      rintro b m ⟨o, es, ep, e1, d, r⟩
      exact ⟨o, es, ep, hidT_get e1 (untracked e1 d), d, r⟩
    have hKb : K.In (hidT s1.heap H) := fun b o e1 => by
      refine hidT_get (KX b o e1) ?_
      cases q : H b with
      | none => rfl
      | some u =>
        obtain rfl : b = a := hA b (by rw [q]; exact fun z => nomatch z)
        have := hK (by rw [q]; exact fun z => nomatch z)
        rw [this] at e1
        cases e1
    obtain ⟨mc, l1, l2⟩ := hlim
    have en : Env0 P w K mg (hidT s1.heap H) callerA [] s1 H :=
      ⟨rfl, ⟨hKb, names hns, ⟨mb, names hb, hbb⟩, ⟨mc, names l1, l2⟩⟩, fun b o e1 => of_hidT e1, Nat.le_of_eq (hidT_size _ _), trivial, fun b z => absurd z (List.not_mem_nil), hok, .of_eq hg⟩
    refine codeAny_mono ((F _ hKb (names hns)).go callerA [] s1 H ⟨[.ref a], []⟩ [.ref a] [.ref a] _ _ rfl hr en (hbind s1 (.ref a)) (.cons rfl .nil) (hsp H hO hS)) fun r s' h => ?_
    cases r with
    | error er => exact (hCT H er s' h).elim
    | ok fl =>
      cases fl with
      | next => exact h.elim
      | brk => exact h.elim
      | cont => exact h.elim
      | ret u =>
        obtain ⟨v, H', os, bare, un, hok2, rr, q⟩ := h
        obtain rfl : v = .bl true := q
        obtain rfl : u = Value.bool true := rr
        refine ⟨rfl, OldK.of_keep fun b o e1 => ?_, os, bare⟩
        cases q : H b with
        | none => exact un.keep b o e1 q (fun z => nomatch z) (fun z => nomatch z)
        | some u =>
          rcases hO b with z | ⟨ob, xs, z⟩
          · rw [q] at z; cases z
          · obtain ⟨k1, _⟩ := hok b _ z
            obtain ⟨k2, _⟩ := hok2 b _ (un.frzs b ob _ z)
            rw [e1] at k1
            cases k1
            exact k2
  cases hk : K.lookup a with
  | some o =>
    have e1 := KX a o hk
    rw [ha] at e1
    cases e1
    have none0 : ∀ b : Addr, (fun _ => none : Hp) b = none := fun _ => rfl
    refine at_heap (fun _ => none) (fun _ => .inl rfl) (.inr ⟨_, vs.toArray, _, hk, rfl, rfl, rfl, ?_, by simpa using rv⟩) (fun b u z => nomatch ((none0 b).symm.trans z)) (fun b z => absurd rfl z) fun z => absurd rfl z
    rw [List.size_toArray, hi.length]
    exact hl
  | none =>
    let H0 : Hp := fun b => if b = a then some (.frz { cls := .type "list", data := .seq vs.toArray } (.lst (ns.map V.int))) else none
    have at_a : H0 a = some (.frz { cls := .type "list", data := .seq vs.toArray } (.lst (ns.map V.int))) := if_pos rfl
    have off : ∀ {b : Addr}, b ≠ a → H0 b = none := fun h => if_neg h
    refine at_heap H0 (fun b => ?_) (.inl (.inr ⟨_, at_a⟩)) (fun b u z => ?_) (fun b z => ?_) fun _ => hk
    · by_cases hb : b = a
      · subst hb; exact .inr ⟨_, _, at_a⟩
      · exact .inl (off hb)
    · by_cases hb : b = a
      · subst hb
        rw [at_a] at z
        cases z
        exact ⟨ha, by rw [List.length_map]; exact hl, vs, _, rv, ha⟩
      · rw [off hb] at z; cases z
    · by_cases hb : b = a
      · exact hb
      · exact absurd (off hb) z
end CK
namespace CK
open PySem PySem.Spec PyProof.Rows L2
variable [Memo]
section
variable {X : Cx} {a b c e : Expr} {oa ob oc : Od} {F : Ex} {pos p : Pos} {x : Str}
/-- a built-in of one argument -/
theorem de_b1 {id : String} {r : List V → Hp → VK → Prop} {f : PyData → Option Sl} (hc : CallR X (.builtin id) r)
    (hf : ∀ (G H : Hp) (σ : SS) (δ : List Sl) (Q : VK) (v : V) (d : PyData) (z : Sl), Rel X.K G H σ δ → RT X.K G H v d → f d = some z → Want X.K G H σ δ z Q → r [v] H Q)
    (hg : Gl X x) (hm : X.mg x = none) (hv : bootBuiltins x = some (.builtin id)) (ha : DO X a oa) (hn : x ≠ "__name__" := by decide) (hdb : (x == ("__debug__" : Str)) = false := by decide) (hs : starEach [a] X.env = (false, eval a X.env) :: starEach [] X.env := by rfl)
    (hpl : (backTo pos (starEach [] X.env)).any (·.1) = false := by rfl) : DE X (.Call (.Name x p) [a] [] pos) (dOp1 f oa) :=
  PE.by (pe_callB hc hg hm hv (pa_cons ha.pe pa_nil hs) hn hdb hs hpl) fun σ H Q h => od1 h fun G H1 δ v d z R r1 e3 q => hf G H1 σ δ Q v d z R r1 e3 q
theorem de_t1 {T : String} {r : List V → Hp → VK → Prop} {f : PyData → Option Sl} (hc : CallR X (.type T) r)
    (hf : ∀ (G H : Hp) (σ : SS) (δ : List Sl) (Q : VK) (v : V) (d : PyData) (z : Sl), Rel X.K G H σ δ → RT X.K G H v d → f d = some z → Want X.K G H σ δ z Q → r [v] H Q)
    (hg : Gl X x) (hm : X.mg x = none) (hv : bootBuiltins x = some (.type T)) (ha : DO X a oa) (hn : x ≠ "__name__" := by decide) (hdb : (x == ("__debug__" : Str)) = false := by decide) (hs : starEach [a] X.env = (false, eval a X.env) :: starEach [] X.env := by rfl)
    (hpl : (backTo pos (starEach [] X.env)).any (·.1) = false := by rfl) : DE X (.Call (.Name x p) [a] [] pos) (dOp1 f oa) :=
  PE.by (pe_callTy hc hg hm hv (pa_cons ha.pe pa_nil hs) hn hdb hs hpl) fun σ H Q h => od1 h fun G H1 δ v d z R r1 e3 q => hf G H1 σ δ Q v d z R r1 e3 q
theorem de_b2 {id : String} {r : List V → Hp → VK → Prop} {f : PyData → PyData → Option Sl} (hc : CallR X (.builtin id) r)
    (hf : ∀ (G H : Hp) (σ : SS) (δ : List Sl) (Q : VK) (v w : V) (d e : PyData) (z : Sl), Rel X.K G H σ δ → RT X.K G H v d → RT X.K G H w e → f d e = some z → Want X.K G H σ δ z Q → r [v, w] H Q)
    (hg : Gl X x) (hm : X.mg x = none) (hv : bootBuiltins x = some (.builtin id)) (ha : DO X a oa) (hb : DO X b ob) (hn : x ≠ "__name__" := by decide) (hdb : (x == ("__debug__" : Str)) = false := by decide) (hs : starEach [a, b] X.env = (false, eval a X.env) :: starEach [b] X.env := by rfl) (hs2 : starEach [b] X.env = (false, eval b X.env) :: starEach [] X.env := by rfl)
    (hpl : (backTo pos (starEach [b] X.env)).any (·.1) = false := by rfl) : DE X (.Call (.Name x p) [a, b] [] pos) (dOp2 f oa ob) :=
  PE.by (pe_callB hc hg hm hv (pa_cons ha.pe (pa_cons hb.pe pa_nil hs2) hs) hn hdb hs hpl) fun σ H Q h => od2 h fun G H1 δ v w d e z R r1 r2 e3 q => hf G H1 σ δ Q v w d e z R r1 r2 e3 q
def absD : PyData → Option Sl
  | .int i => iD (if i < 0 then -i else i)
  | _ => none
def max2D : PyData → PyData → Option Sl
  | .int i, .int j => iD (if j > i then j else i)
  | _, _ => none
def min2D : PyData → PyData → Option Sl
  | .int i, .int j => iD (if j < i then j else i)
  | _, _ => none
def lenD : PyData → Option Sl
  | .list ds => iD ds.length
  | .tuple ds => iD ds.length
  | .str s => if s.length ≤ LINE then iD s.length else none
  | _ => none
def intD : PyData → Option Sl
  | .int i => iD i
  | .bool b => iD (if b then 1 else 0)
  | .str s => if s.length ≤ 640 then (PySem.intText? s).bind fun n => iD n else none
  | _ => none
def strD : PyData → Option Sl
  | .int i => if i.natAbs.log2 < 1920 then some (.im (.str (toString i))) else none
  | .str s => some (.im (.str s))
  | _ => none
def reprD (d : PyData) : Option Sl := if PyData.showable d = true ∧ PyData.hasDict d = false ∧ (PyData.shown d).length ≤ LINE ∧ PyData.depth d ≤ 64 then some (.im (.str (PyData.shown d))) else none
def listD : PyData → Option Sl
  | .list ds => some (.bx .l ds)
  | .tuple ds => some (.bx .l ds)
  | _ => none
def tupD : PyData → Option Sl
  | .list ds => some (.im (.tuple ds))
  | .tuple ds => some (.im (.tuple ds))
  | _ => none
/-- the ints of data -/
def intsD : List PyData → Option (List Int)
  | [] => some []
  | .int i :: r => (intsD r).bind fun t => some (i :: t)
  | _ => none
def boolsD : List PyData → Option (List Bool)
  | [] => some []
  | .bool i :: r => (boolsD r).bind fun t => some (i :: t)
  | _ => none
def sumD : PyData → Option Sl
  | .list ds => (intsD ds).bind fun ns => iD ns.sum
  | _ => none
def maxL : List Int → Option Int
  | [] => none
  | a :: r => some (r.foldl (fun m x => if x > m then x else m) a)
def minL : List Int → Option Int
  | [] => none
  | a :: r => some (r.foldl (fun m x => if x < m then x else m) a)
def maxD : PyData → Option Sl
  | .list ds => (intsD ds).bind fun ns => (maxL ns).bind fun m => iD m
  | _ => none
def minD : PyData → Option Sl
  | .list ds => (intsD ds).bind fun ns => (minL ns).bind fun m => iD m
  | _ => none
/-- sorted ints -/
def insI (a : Int) : List Int → List Int
  | [] => [a]
  | b :: r => if a ≤ b then a :: b :: r else b :: insI a r
def sortI : List Int → List Int
  | [] => []
  | a :: r => insI a (sortI r)
def sortedD : PyData → Option Sl
  | .list ds => (intsD ds).bind fun ns => some (.bx .l ((sortI ns).map PyData.int))
  | _ => none
def anyD : PyData → Option Sl
  | .list ds => (boolsD ds).bind fun ns => bD (ns.any id)
  | _ => none
def allD : PyData → Option Sl
  | .list ds => (boolsD ds).bind fun ns => bD (ns.all id)
  | _ => none
def divmodD : PyData → PyData → Option Sl
  | .int i, .int j => if 0 < j ∧ (i.natAbs.log2 + 1 : Nat) ≤ j.natAbs.log2 + 4000 then some (.im (.tuple [.int (i / j), .int (i % j)])) else none
  | _, _ => none
theorem de_abs (hg : Gl X "abs") (hm : X.mg "abs" = none) (ha : DO X a oa) (hs : starEach [a] X.env = (false, eval a X.env) :: starEach [] X.env := by rfl) (hpl : (backTo pos (starEach [] X.env)).any (·.1) = false := by rfl) : DE X (.Call (.Name "abs" p) [a] [] pos) (dOp1 absD oa) :=
  de_b1 call_abs (fun G H σ δ Q v d z R r1 h q => by
    unfold absD at h
    split at h
    · cases h; exact ⟨_, by rw [r1.int], q.int R⟩
    · cases h) hg hm (by decide +kernel) ha (hs := hs) (hpl := hpl)
theorem de_len (hg : Gl X "len") (hm : X.mg "len" = none) (ha : DO X a oa) (hs : starEach [a] X.env = (false, eval a X.env) :: starEach [] X.env := by rfl) (hpl : (backTo pos (starEach [] X.env)).any (·.1) = false := by rfl) : DE X (.Call (.Name "len" p) [a] [] pos) (dOp1 lenD oa) :=
  de_b1 (CallR.or call_len_seq call_len_str) (fun G H σ δ Q v d z R r1 h q => by
    unfold lenD at h
    split at h
    · cases h
      obtain ⟨p, ws, rfl, h1, ra⟩ := r1.lst R.sub
      exact .inl ⟨p, ws, rfl, .inl (SqL.of h1), by rw [ra.length]; exact q.int R⟩
    · cases h
      obtain ⟨p, ws, rfl, h1, ra⟩ := r1.tup R.sub
      exact .inl ⟨p, ws, rfl, .inr h1, by rw [ra.length]; exact q.int R⟩
    · obtain ⟨hc, h⟩ := of_ite0 h
      cases h; exact .inr ⟨_, by rw [r1.str], hc, q.int R⟩
    · cases h) hg hm PySem.boot_len ha (hs := hs) (hpl := hpl)
theorem de_int1 (hg : Gl X "int") (hm : X.mg "int" = none) (ha : DO X a oa) (hs : starEach [a] X.env = (false, eval a X.env) :: starEach [] X.env := by rfl) (hpl : (backTo pos (starEach [] X.env)).any (·.1) = false := by rfl) : DE X (.Call (.Name "int" p) [a] [] pos) (dOp1 intD oa) :=
  de_t1 (CallR.or call_int1 call_int_str) (fun G H σ δ Q v d z R r1 h q => by
    unfold intD at h
    split at h
    · cases h; exact .inl (.inl ⟨_, by rw [r1.int], q.int R⟩)
    · cases h; exact .inl (.inr ⟨_, by rw [r1.bl], q.int R⟩)
    · obtain ⟨hc, h⟩ := of_ite0 h
      obtain ⟨n, e, h⟩ := bind_some_of h
      cases h; exact .inr ⟨_, n, by rw [r1.str], e, hc, q.int R⟩
    · cases h) hg hm (by decide +kernel) ha (hs := hs) (hpl := hpl)
theorem de_list1 (hg : Gl X "list") (hm : X.mg "list" = none) (ha : DO X a oa) (hs : starEach [a] X.env = (false, eval a X.env) :: starEach [] X.env := by rfl) (hpl : (backTo pos (starEach [] X.env)).any (·.1) = false := by rfl) : DE X (.Call (.Name "list" p) [a] [] pos) (dOp1 listD oa) :=
  de_t1 call_list_of (fun G H σ δ Q v d z R r1 h q => by
    unfold listD at h
    split at h
    · cases h
      obtain ⟨p, ws, rfl, h1, ra⟩ := r1.lst R.sub
      exact ⟨p, ws, rfl, .inl (SqL.of h1), q.ow R ra⟩
    · cases h
      obtain ⟨p, ws, rfl, h1, ra⟩ := r1.tup R.sub
      exact ⟨p, ws, rfl, .inr h1, q.ow R ra⟩
    · cases h) hg hm (by decide +kernel) ha (hs := hs) (hpl := hpl)
theorem de_min2 (hcl : X.calm = true) (hg : Gl X "min") (hm : X.mg "min" = none) (ha : DO X a oa) (hb : DO X b ob) (hs : starEach [a, b] X.env = (false, eval a X.env) :: starEach [b] X.env := by rfl) (hs2 : starEach [b] X.env = (false, eval b X.env) :: starEach [] X.env := by rfl)
    (hpl : (backTo pos (starEach [b] X.env)).any (·.1) = false := by rfl) : DE X (.Call (.Name "min" p) [a, b] [] pos) (dOp2 min2D oa ob) :=
  de_b2 (call_min2 hcl) (fun G H σ δ Q v w d e z R r1 r2 h q => by
    unfold min2D at h
    split at h
    · cases h; exact ⟨_, _, by rw [r1.int, r2.int], q.int R⟩
    · cases h) hg hm (by decide +kernel) ha hb (hs := hs) (hs2 := hs2) (hpl := hpl)
theorem de_divmod (hg : Gl X "divmod") (hm : X.mg "divmod" = none) (ha : DO X a oa) (hb : DO X b ob) (hs : starEach [a, b] X.env = (false, eval a X.env) :: starEach [b] X.env := by rfl) (hs2 : starEach [b] X.env = (false, eval b X.env) :: starEach [] X.env := by rfl)
    (hpl : (backTo pos (starEach [b] X.env)).any (·.1) = false := by rfl) : DE X (.Call (.Name "divmod" p) [a, b] [] pos) (dOp2 divmodD oa ob) :=
  de_b2 call_divmodW (fun G H σ δ Q v w d e z R r1 r2 h q => by
    unfold divmodD at h
    split at h
    · rename_i i j
      obtain ⟨hc, h⟩ := of_ite h
      cases h
      refine ⟨_, _, by rw [r1.int, r2.int], divp_ok hc.1 ?_, q.tup R (.cons (.int _) (.cons (.int _) .nil))⟩
      have h1 := intBits_le i
      have h2 : Builtin.Int.intBits j = j.natAbs.log2 + 1 := by
        unfold Builtin.Int.intBits
        split
        · rename_i h0
          have : j = 0 := by simpa using h0
          omega
        · rfl
      omega
    · cases h) hg hm (by decide +kernel) ha hb (hs := hs) (hs2 := hs2) (hpl := hpl)
/-- repr -/
theorem call_reprD (hgd : X.A.guards = some []) (hu : X.A.units + 128 < cLine) : CallR X (.builtin "repr") (fun xs H Q => ∃ x d, xs = [x] ∧ Dp X.K H x d ∧ PyData.showable d = true ∧ PyData.hasDict d = false ∧ (PyData.shown d).length ≤ sizeLine ∧ PyData.depth d ≤ 64 ∧ Q (.str (PyData.shown d)) H) := by
  intro pins s σ H xs us Q I rv h
  obtain ⟨x, d, rfl, hd, hs, hdi, hz, hdp, q⟩ := h
  cases rv with
  | cons r rr =>
    cases rr
    rename_i u
    obtain ⟨as, rd⟩ := Dp.reads I d x u hd r
    cases rd with
    | none => exact PySem.P.repr_of_none ⟨.str _, H, I.tok _, ⟨_, rfl⟩, q⟩
    | bool b => exact PySem.P.repr_of_bool ⟨.str _, H, I.tok _, ⟨_, rfl⟩, q⟩
    | int i t => exact PySem.P.repr_of_int (of_decide_eq_true hs) ⟨.str _, H, I.tok _, ⟨_, rfl⟩, q⟩
    | str y t => exact PySem.P.repr_of_str ⟨.str _, H, I.tok _, ⟨_, rfl⟩, q⟩ hz
    | list h1 h2 h3 h4 => exact repr_of_reads' (.list h1 h2 h3 h4) hs (PyData.noDict_hsm hdi) hgd (by omega) (fun _ _ e => e) (fun h' u tk k => ⟨.str _, H, I.kept k, ⟨_, rfl⟩, q⟩) hz
    | tuple h1 h2 h3 h4 => exact repr_of_reads' (.tuple h1 h2 h3 h4) hs (PyData.noDict_hsm hdi) hgd (by omega) (fun _ _ e => e) (fun h' u tk k => ⟨.str _, H, I.kept k, ⟨_, rfl⟩, q⟩) hz
    | dict h1 h2 h3 h4 h5 => cases hdi
theorem de_repr (hgd : X.A.guards = some []) (hu : X.A.units + 128 < cLine) (hg : Gl X "repr") (hm : X.mg "repr" = none) (ha : DO X a oa) (hs : starEach [a] X.env = (false, eval a X.env) :: starEach [] X.env := by rfl) (hpl : (backTo pos (starEach [] X.env)).any (·.1) = false := by rfl) : DE X (.Call (.Name "repr" p) [a] [] pos) (dOp1 reprD oa) :=
  de_b1 (call_reprD hgd hu) (fun G H σ δ Q v d z R r1 h q => by
    obtain ⟨⟨h1, h2, h3, h4⟩, h⟩ := of_ite h
    subst h
    exact ⟨v, d, rfl, r1.dp R.sub h2, h1, h2, h3, h4, q.str R⟩) hg hm (by decide +kernel) ha (hs := hs) (hpl := hpl)
variable {k n : Nat} {f : Addr} {fd : FuncData} {ps : List Str} {fn : Fn} {as : List Ag} {es : List Expr}
theorem de_call [Still ‹Memo›] (hgd : X.A.guards = some []) (F : FnG X.prog X.w X.K X.mg X.base CX0 k f fd ps (spD X.K n fn)) (hr : Room k X.A) (hg : Gl X x) (hm : X.mg x = some (.ref f)) (hk : PySem.W.keepIn X.K (.ref f) = true)
    (hb : Binds X.K fd ps []) (ha : DA X (e :: es) as) (nd : (agI as).Nodup := by decide) (hn : as.length = n := by rfl) (hdb : (x == ("__debug__" : Str)) = false := by decide)
    (he : starEach (e :: es) X.env = (false, eval e X.env) :: starEach es X.env := by rfl) (hpl : (backTo pos (starEach es X.env)).any (·.1) = false := by rfl) : DE X (.Call (.Name x p) (e :: es) [] pos) (dCall fn as) :=
  PE.by (pe_callG hgd F hr hg hm hk hb pass0 ha hdb he hpl) fun σ H Q h => call_go nd hn h
/-- the callee's slots out of values in another order -/
def fnP (ix : List Nat) (f : Fn) : Fn := fun ss => if ix.length = ss.length ∧ (∀ i ∈ ix, i < ss.length) ∧ ss.all (fun s => match s with | .bx _ _ => false | .no => false | _ => true) = true then
  (f (ix.filterMap fun i => ss[i]?)).bind fun y => if y.2.all (fun s => match s with | .bx _ _ => false | _ => true) = true then some (y.1, ss) else none else none
end
end CK
namespace CK
open PySem PySem.Spec PyProof.Rows L2
variable [Memo]
section
variable {X : Cx} {P : List Nat} {a b c e v : Expr} {oa ob oc : Od} {F Fi : Ex} {pos p cpos apos : Pos} {x : Str}
/-- x.append(e) -/
def dApp (i : Nat) (F : Ex) : Ex := fun δ => (match δ[i]? with | some (.bx .l _) => some () | _ => none).bind fun _ => (F δ).bind fun x => x.1.sh.bind fun d =>
  (match x.2[i]? with | some (.bx .l ds) => some ds | _ => none).bind fun ds => if ds.length < LINE then some (.im .none, x.2.set i (.bx .l (ds ++ [d]))) else none
theorem de_app (i : Nat) {px : Pos} (ha : DE X e F) (hN : X.N[i]? = some x := by rfl) (hv : Vis X.env.scope x := by first | exact Or.inl rfl | exact Or.inr (Or.inl rfl) | exact Or.inr (Or.inr rfl)) (hd : (x == ("__debug__" : Str)) = false := by decide)
    (hcd : (x == ("__classdict__" : Str)) = false := by decide) (hbase : attributeBase (.Name x px) "append" X.env (eval (.Name x px) X.env) = eval (.Name x px) X.env := by rfl)
    (hfew : ((backTo cpos (starEach [e] X.env)).all (fun x => !x.1) && (backToKw cpos (keywordEach [] X.env)).all (fun x => x.1.isSome) && decide ([e].length + ([] : List Keyword).length + (if ([] : List Keyword).isEmpty then 0 else 1) < 30)) = true := by rfl)
    (hline : (apos.endLine == cpos.line) = true := by rfl) (hs : starEach [e] X.env = (false, eval e X.env) :: starEach [] X.env := by rfl) (hplain : (backTo cpos (starEach [] X.env)).any (·.1) = false := by rfl) :
    DE X (.Call (.Attribute (.Name x px) "append" apos) [e] [] cpos) (dApp i F) :=
  PE.by (pe_bm PySem.F.plainAttrs_list PySem.F.slot_list_append PySem.F.type_list_append mt_append (pe_var hN hv hd hcd) (pa_cons ha pa_nil hs) hbase hfew hline hs hplain) fun σ H Q h => by
    obtain ⟨G, δ, r, δ', R, e, q⟩ := h
    obtain ⟨u, e0, e⟩ := bind_some_of e
    obtain ⟨⟨r1, δ1⟩, e1, e⟩ := bind_some_of e
    obtain ⟨d, e2, e⟩ := bind_some_of e
    obtain ⟨ds, e3, e⟩ := bind_some_of e
    obtain ⟨hc, e⟩ := of_ite e
    cases e
    split at e0
    · rename_i ds0 hd0
      obtain ⟨p0, ws0, k1, k2, _⟩ := R.ow hd0
      refine ⟨_, k1, .inl ⟨rfl, _, SqL.of k2⟩, tD_run R e1 fun w G1 H1 R1 st1 rv => ?_⟩
      obtain ⟨G2, R2, st2, _, rp⟩ := RV.shared R1 st1 rv e2
      split at e3
      · rename_i ds1 hd1
        cases e3
        obtain ⟨p1, ws1, j1, j2, _, ra⟩ := R2.ow hd1
        rw [k1] at j1; cases j1
        obtain ⟨R3, st3⟩ := R2.write (ws := ws1 ++ [w]) hd1 k1 (ra.append (.cons rp .nil))
        exact ⟨p0, ws1, w, rfl, rfl, j2, by rw [ra.length]; exact hc, q .non _ _ R3 (st2.trans st3) .non⟩
      · cases e3
    · cases e0
/-- x.extend(e) -/
def dExt (i : Nat) (F : Ex) : Ex := fun δ => (match δ[i]? with | some (.bx .l _) => some () | _ => none).bind fun _ => (F δ).bind fun x => x.1.sh.bind fun d => (match d with | .list es => some es | _ => none).bind fun es =>
  (match x.2[i]? with | some (.bx .l ds) => some ds | _ => none).bind fun ds => if ds.length + es.length ≤ LINE then some (.im .none, x.2.set i (.bx .l (ds ++ es))) else none
/-- x[i] = e -/
def sSto (i : Nat) (Fi F : Ex) : Sm := fun δ => (F δ).bind fun x => x.1.sh.bind fun d => (match x.2[i]? with | some (.bx .l _) => some () | _ => none).bind fun _ => (Fi x.2).bind fun y => (intOf y.1).bind fun j =>
  (match y.2[i]? with | some (.bx .l ds) => some ds | _ => none).bind fun ds => (ixN ds.length j).bind fun k => some (.nx, y.2.set i (.bx .l (ds.set k d)))
theorem ds_sto (i : Nat) {px tpos : Pos} (hv1 : DE X v F) (hi1 : DE X b Fi) (hN : X.N[i]? = some x := by rfl) (hv : Vis X.env.scope x := by first | exact Or.inl rfl | exact Or.inr (Or.inl rfl) | exact Or.inr (Or.inr rfl)) (hd : (x == ("__debug__" : Str)) = false := by decide)
    (hcd : (x == ("__classdict__" : Str)) = false := by decide)
    (has : ∀ v, assign (.Subscript (.Name x px) b tpos) X.env v = (do
      let ov ← holding [v] (eval (.Name x px) X.env)
      let iv ← holding [v, ov] (eval b X.env)
      standAt tpos
      holding [v, ov, iv] (setItem ov iv v)
      release [v, ov, iv] []) := by intro _; rfl)
    (hs : swapsWithSole [.Subscript (.Name x px) b tpos] v pos.line X.env = pure false := by rfl) (hw : swappedStores [.Subscript (.Name x px) b tpos] v X.env = pure none := by rfl)
    (h1 : (assignEach [.Subscript (.Name x px) b tpos] X.env).map (·.2) = [assign (.Subscript (.Name x px) b tpos) X.env] := by rfl) :
    DS X P (.Assign [.Subscript (.Name x px) b tpos] v pos) (sSto i Fi F) :=
  PS.by (ps_asg hv1 (pg_sub (pe_var hN hv hd hcd) hi1 set_list has) hs hw h1) fun D σ H h => by
    obtain ⟨G, δ, fl, δ', R, e, q⟩ := h
    obtain ⟨⟨r1, δ1⟩, e1, e⟩ := bind_some_of e
    obtain ⟨d, e2, e⟩ := bind_some_of e
    obtain ⟨u, e0, e⟩ := bind_some_of e
    obtain ⟨⟨r3, δ3⟩, e3, e⟩ := bind_some_of e
    obtain ⟨j, e4, e⟩ := bind_some_of e
    obtain ⟨ds, e5, e⟩ := bind_some_of e
    obtain ⟨k, e6, e⟩ := bind_some_of e
    cases e
    refine tD_run R e1 fun w G1 H1 R1 st1 rv => ?_
    obtain ⟨G2, R2, st2, _, rp⟩ := RV.shared R1 st1 rv e2
    split at e0
    · rename_i ds0 hd0
      obtain ⟨p0, ws0, k1, k2, _⟩ := R2.ow hd0
      refine ⟨_, k1, tD_run R2 e3 fun w3 G3 H3 R3 st3 rv3 => ?_⟩
      split at e5
      · rename_i ds1 hd1
        cases e5
        obtain ⟨p1, ws1, j1, j2, _, ra⟩ := R3.ow hd1
        rw [k1] at j1; cases j1
        obtain ⟨R4, st4⟩ := R3.write (ws := ws1.set k w) hd1 k1 ((ra.set (rp.same st3.same) k))
        exact ⟨p0, ws1, j, k, rfl, int_rv rv3 e4, j2, by rw [ra.length]; exact e6, q σ _ _ R4 ((st2.trans st3).trans st4) Pin.refl⟩
      · cases e5
    · cases e0
/-- x op= e of ints -/
def sAug (i : Nat) (g : Int → Int → Int) (F : Ex) : Sm := fun δ => (match δ[i]? with | some (.im (.int n)) => some n | _ => none).bind fun n => (F δ).bind fun x => (intOf x.1).bind fun m => some (.nx, x.2.set i (.im (.int (g n m))))
/-- a < b < c of ints -/
def dCh (f g : Int → Int → Bool) (a b c : Ex) : Ex := fun δ => (a δ).bind fun x => (intOf x.1).bind fun i => (b x.2).bind fun y => (intOf y.1).bind fun j => if f i j = true then (c y.2).bind fun z => (intOf z.1).bind fun k => some (.im (.bool (g j k)), z.2) else some (.im (.bool false), y.2)
variable {Fa Fb Fc : Ex}
theorem ch_go {K : PySem.W.Frag} {f g : Int → Int → Bool} {σ : SS} {H : Hp} {Q : VK} (h : tD K (dCh f g Fa Fb Fc) σ H Q) : tChain (rI0 fun i j => .bl (f i j)) (rI0 fun i j => .bl (g i j)) (tD K Fa) (tD K Fb) (tD K Fc) σ H Q := by
  obtain ⟨G, δ, r, δ', R, e, q⟩ := h
  obtain ⟨⟨r1, δ1⟩, e1, e⟩ := bind_some_of e
  obtain ⟨i, e2, e⟩ := bind_some_of e
  obtain ⟨⟨r3, δ3⟩, e3, e⟩ := bind_some_of e
  obtain ⟨j, e4, e⟩ := bind_some_of e
  refine tD_run R e1 fun v G1 H1 R1 st1 rv => tD_run R1 e3 fun w G2 H2 R2 st2 rv2 => ⟨i, j, int_rv rv e2, int_rv rv2 e4, f i j, rfl, ?_⟩
  by_cases hc : f i j = true
  · rw [if_pos hc] at e ⊢
    obtain ⟨⟨r5, δ5⟩, e5, e⟩ := bind_some_of e
    obtain ⟨k, e6, e⟩ := bind_some_of e
    cases e
    exact tD_run R2 e5 fun u G3 H3 R3 st3 rv3 => ⟨j, k, int_rv rv2 e4, int_rv rv3 e6, q _ G3 H3 R3 ((st1.trans st2).trans st3) (.bl _)⟩
  · rw [if_neg hc] at e ⊢
    cases e
    exact q _ G2 H2 R2 (st1.trans st2) (.bl false)
theorem de_ch {op op' : CmpOp} {f g : Int → Int → Bool} (ho : OpR X (compareOp op) (rI0 fun i j => .bl (f i j))) (ho' : OpR X (compareOp op') (rI0 fun i j => .bl (g i j))) (ha : DE X a Fa) (hb : DE X b Fb) (hc : DE X c Fc)
    (hm : lastMarks [op, op'] [b, c] = false := by with_unfolding_all rfl) : DE X (.Compare a [op, op'] [b, c] pos) (dCh f g Fa Fb Fc) :=
  PE.by (pe_chain ho ho' ha hb hc hm) fun σ H Q h => ch_go h
/-- len of a list that is only read -/
def dLenF (i : Nat) : Ex := fun δ => match δ[i]? with | some (.fz ds) => some (.im (.int ds.length), δ) | _ => none
/-- a slice of such -/
def dSlF (i : Nat) (lo hi : Option Ex) : Ex := fun δ => (match δ[i]? with | some (.fz ds) => some ds | _ => none).bind fun ds => (prt lo δ).bind fun l => (prt hi l.2).bind fun h => some (.bx .l (cutD ds l.1 h.1), h.2)
theorem de_slF (i : Nat) {lo hi : Option Expr} {fl fh : Option Ex} {p2 px : Pos} (hl : DP X lo fl) (hh : DP X hi fh) (hN : X.N[i]? = some x := by rfl) (hv : Vis X.env.scope x := by first | exact Or.inl rfl | exact Or.inr (Or.inl rfl) | exact Or.inr (Or.inr rfl)) (hd : (x == ("__debug__" : Str)) = false := by decide)
    (hcd : (x == ("__classdict__" : Str)) = false := by decide) : DE X (.Subscript (.Name x px) (.Slice lo hi none p2) pos) (dSlF i fl fh) :=
  PE.by (pe_slice sl_list (pe_var hN hv hd hcd) hl.po hh.po) fun σ H Q h => by
    obtain ⟨G, δ, r, δ', R, e, q⟩ := h
    obtain ⟨ds, e0, e⟩ := bind_some_of e
    obtain ⟨⟨l, δ2⟩, e2, e⟩ := bind_some_of e
    obtain ⟨⟨u, δ3⟩, e3, e⟩ := bind_some_of e
    cases e
    split at e0
    · rename_i ds' hd
      cases e0
      obtain ⟨p, ws, h1, h2, ra⟩ := R.fz hd
      refine ⟨_, h1, prt_run R e2 fun G2 H2 R2 st2 => prt_run R2 e3 fun G3 H3 R3 st3 => ?_⟩
      have stA := st2.trans st3
      refine ⟨p, ws, rfl, Same.seq (stA.same.trans R3.sub) h2, fun t ht => ?_⟩
      exact q _ G3 _ (R3.new ht) (stA.trans (Stp.new ht)) ⟨t, _, rfl, upd_same, gfree R3.sub ht, R3.freeOwn ht, stA.dom t ht, cut_rp (ra.same stA.same)⟩
    · cases e0
end
end CK
namespace CK
open PySem PySem.Spec PyProof.Rows L2
variable [Memo]
/-- the class of data -/
def clsD : PyData → Option String
  | .none => some "NoneType"
  | .bool _ => some "bool"
  | .int _ => some "int"
  | .str _ => some "str"
  | .list _ => some "list"
  | .tuple _ => some "tuple"
  | .dict _ => none
def kinD (t T : String) : Bool := t == T || (t == "bool" && T == "int")
def isiD (T : String) (d : PyData) : Option Sl := (clsD d).bind fun t => bD (kinD t T)
theorem RT.ty {K : PySem.W.Frag} {G H : Hp} {v : V} {d : PyData} {t : String} (s : Same G H) (h : RT K G H v d) (e : clsD d = some t) : TyX K H v (.type t) := by
  cases d with
  | none => cases e; rw [h.non]; exact .base .non
  | bool b => cases e; rw [h.bl]; exact .base (.bl b)
  | int i => cases e; rw [h.int]; exact .base (.int i)
  | str i => cases e; rw [h.str]; exact .base (.str i)
  | list ds =>
    cases e
    obtain ⟨p, ws, rfl, h1, _⟩ := h.lst s
    exact .base (.lst h1)
  | tuple ds =>
    cases e
    obtain ⟨p, ws, rfl, h1, _⟩ := h.tup s
    rcases h1 with (h1 | ⟨o, h1⟩) | ⟨o, its, n, h1, h2, _⟩
    · exact .base (.tup h1)
    · exact .fTuple h1
    · exact .kTuple h1 h2
  | dict _ => cases e
section
variable {X : Cx} {a : Expr} {oa : Od} {pos p p2 : Pos} {x T : Str}
theorem de_isi {T : Str} {t : String} (hk : ∀ s, s = "NoneType" ∨ s = "bool" ∨ s = "int" ∨ s = "str" ∨ s = "list" ∨ s = "tuple" → PySem.W.kitOne X.K (.type s) (.type t) = some (kinD s t)) (hg : Gl X "isinstance") (hm : X.mg "isinstance" = none) (hg2 : Gl X T) (hm2 : X.mg T = none)
    (hv2 : bootBuiltins T = some (.type t)) (ha : DO X a oa) (hn : T ≠ "__name__" := by decide) (hdb : (T == ("__debug__" : Str)) = false := by decide)
    (hs : starEach [a, .Name T p2] X.env = (false, eval a X.env) :: starEach [.Name T p2] X.env := by rfl) (hs2 : starEach [.Name T p2] X.env = (false, eval (.Name T p2) X.env) :: starEach [] X.env := by rfl)
    (hpl : (backTo pos (starEach [.Name T p2] X.env)).any (·.1) = false := by rfl) : DE X (.Call (.Name "isinstance" p) [a, .Name T p2] [] pos) (dOp1 (isiD t) oa) :=
  PE.by (pe_callB call_isi hg hm (by decide +kernel) (pa_cons ha.pe (pa_cons (pe_bltn (v := .ty t) hg2 hm2 hv2 rfl hn hdb) pa_nil hs2) hs) (he := hs) (hpl := hpl)) fun σ H Q h =>
    od1 (T := fun v H1 => rIsi X.K [v, .ty t] H1 Q) h fun G H1 δ v d z R r1 e3 q => by
      obtain ⟨s, e4, e5⟩ := bind_some_of e3
      cases e5
      refine ⟨v, .ty t, _, _, kinD s t, rfl, .ty t, r1.ty R.sub e4, hk s ?_, Want.bl q R⟩
      cases d <;> cases e4 <;> simp
end
theorem kit_int {K : PySem.W.Frag} : ∀ s, s = "NoneType" ∨ s = "bool" ∨ s = "int" ∨ s = "str" ∨ s = "list" ∨ s = "tuple" → PySem.W.kitOne K (.type s) (.type "int") = some (kinD s "int") := by
  rintro s (rfl | rfl | rfl | rfl | rfl | rfl) <;> exact kit_ty (by decide +kernel)
theorem kit_bool {K : PySem.W.Frag} : ∀ s, s = "NoneType" ∨ s = "bool" ∨ s = "int" ∨ s = "str" ∨ s = "list" ∨ s = "tuple" → PySem.W.kitOne K (.type s) (.type "bool") = some (kinD s "bool") := by
  rintro s (rfl | rfl | rfl | rfl | rfl | rfl) <;> exact kit_ty (by decide +kernel)
theorem kit_tuple {K : PySem.W.Frag} : ∀ s, s = "NoneType" ∨ s = "bool" ∨ s = "int" ∨ s = "str" ∨ s = "list" ∨ s = "tuple" → PySem.W.kitOne K (.type s) (.type "tuple") = some (kinD s "tuple") := by
  rintro s (rfl | rfl | rfl | rfl | rfl | rfl) <;> exact kit_ty (by decide +kernel)
theorem room128 {k : Nat} {A : Around} (r : Room k A) : A.units + 128 < cLine := by have := r.un; omega
/-- a def of the top: where it stands, what it is, how it is called -/
structure Ent (K : PySem.W.Frag) (mg : Str → Option Value) (x : Str) (st : Stmt) (ps : List Str) where
  f : Addr
  fd : FuncData
  fn : Fun K x x st f fd
  mg : mg x = some (.ref f)
  kp : PySem.W.keepIn K (.ref f) = true
  bd : Binds K fd ps []
end CK
namespace CK
open PySem PySem.Spec PyProof.Rows L2
variable [Memo]
mutual
def nolD : PyData → Bool
  | .list _ => false
  | .dict _ => false
  | .tuple ds => nolAll ds
  | _ => true
def nolAll : List PyData → Bool
  | [] => true
  | d :: ds => nolD d && nolAll ds
end
def nolR : Sl → Bool
  | .im d => nolD d
  | .bx .l ds => nolAll ds
  | _ => false
def frz1 (i : Nat) (δ : List Sl) : List Sl := match δ[i]? with
  | some (.bx .l ds) => δ.set i (.im (.list ds))
  | _ => δ
def lendIn : List Nat → List Sl → List Sl
  | [], δ => δ
  | i :: is, δ => lendIn is (frz1 i δ)
def unl2 : Sl → Option Sl
  | .bx .l es => if nolAll es = true then some (.bx .l es) else none
  | .im (.list es) => if nolAll es = true then some (.im (.list es)) else none
  | _ => none
def unl1 (b : Bool) : Sl → Sl → Option Sl
  | .bx .l ds, x => if b = true then some (.bx .l ds) else unl2 x
  | .bx (.o _) _, _ => none
  | .bx (.d _) _, _ => none
  | .mo _, _ => none
  | s, _ => some s
def unl (is : List Nat) : Nat → List Sl → List Sl → Option (List Sl)
  | _, [], [] => some []
  | k, a :: as, b :: bs => (unl1 (is.contains k) a b).bind fun s => (unl is (k + 1) as bs).bind fun r => some (s :: r)
  | _, _, _ => none
def dLend (is : List Nat) (F : Ex) : Ex := fun δ => (F (lendIn is δ)).bind fun x => if nolR x.1 = true then (unl is 0 δ x.2).bind fun δn => some (x.1, δn) else none
section
variable {K : PySem.W.Frag} {G G' H : Hp}
theorem sqT_nol (s : ∀ a u, G a = some u → (∀ ws, u ≠ .lst ws) → G' a = some u) {a : Addr} {xs : List V} (h : SqT K G a xs) : SqT K G' a xs := by
  rcases h with (h | ⟨o, h⟩) | h
  · exact .inl (.inl (s _ _ h fun _ e => nomatch e))
  · exact .inl (.inr ⟨o, s _ _ h fun _ e => nomatch e⟩)
  · exact .inr h
mutual
theorem Rp.nol (s : ∀ a u, G a = some u → (∀ ws, u ≠ .lst ws) → G' a = some u) : ∀ {d : PyData} {v : V}, Rp K G v d → nolD d = true → Rp K G' v d
  | .none, _, h, _ => by cases h; exact .non
  | .bool b, _, h, _ => by cases h; exact .bl b
  | .int i, _, h, _ => by cases h; exact .int i
  | .str x, _, h, _ => by cases h; exact .str x
  | .list ds, _, _, f => by simp [nolD] at f
  | .tuple ds, _, h, f => by cases h with | tup e r => exact .tup (sqT_nol s e) (RpAll.nol s r (by simpa only [nolD] using f))
  | .dict _, _, _, f => by simp [nolD] at f
theorem RpAll.nol (s : ∀ a u, G a = some u → (∀ ws, u ≠ .lst ws) → G' a = some u) : ∀ {ds : List PyData} {vs : List V}, RpAll K G vs ds → nolAll ds = true → RpAll K G' vs ds
  | [], _, h, _ => by cases h; exact .nil
  | d :: ds, _, h, f => by
    cases h with
    | cons a b =>
      simp only [nolAll, Bool.and_eq_true] at f
      exact .cons (Rp.nol s a f.1) (RpAll.nol s b f.2)
end
theorem frz1_get {i j : Nat} {δ : List Sl} : (frz1 i δ)[j]? = if i = j then (match δ[j]? with | some (.bx .l ds) => some (.im (.list ds)) | o => o) else δ[j]? := by
  unfold frz1
  split
  · rename_i ds hd
    by_cases h : i = j
    · subst h
      rw [if_pos rfl, List.getElem?_set_self (List.getElem?_eq_some_iff.mp hd).1, hd]
    · rw [if_neg h, List.getElem?_set_ne h]
  · rename_i hd
    by_cases h : i = j
    · subst h
      rw [if_pos rfl]
      split
      · rename_i ds hd2; exact absurd hd2 (hd ds)
      · rfl
    · rw [if_neg h]
theorem lendIn_im : ∀ {is : List Nat} {δ : List Sl} {j : Nat} {d : PyData}, δ[j]? = some (.im d) → (lendIn is δ)[j]? = some (.im d)
  | [], _, _, _, h => h
  | i :: is, δ, j, d, h => by
    refine lendIn_im (is := is) ?_
    rw [frz1_get, h]
    split <;> rfl
theorem lendIn_mem : ∀ {is : List Nat} {δ : List Sl} {j : Nat} {ds : List PyData}, j ∈ is → δ[j]? = some (.bx .l ds) → (lendIn is δ)[j]? = some (.im (.list ds))
  | i :: is, δ, j, ds, hm, h => by
    by_cases e : i = j
    · refine lendIn_im (is := is) ?_
      rw [frz1_get, if_pos e, h]
    · refine lendIn_mem (is := is) (by cases hm with | head => exact absurd rfl e | tail _ z => exact z) ?_
      rw [frz1_get, if_neg e, h]
theorem Rel.frz1 {σ : SS} {δ : List Sl} (R : Rel K G H σ δ) (i : Nat) : ∃ G1, Rel K G1 H σ (frz1 i δ) ∧ Stp σ δ G H σ (frz1 i δ) G1 H := by
  unfold CK.frz1
  split
  · rename_i ds hd
    obtain ⟨p, ws, _, _, R', _, _, st⟩ := R.freeze hd
    exact ⟨_, R', st⟩
  · exact ⟨G, R, Stp.refl⟩
theorem Rel.lendIn : ∀ (is : List Nat) {G : Hp} {σ : SS} {δ : List Sl}, Rel K G H σ δ → ∃ G1, Rel K G1 H σ (lendIn is δ) ∧ Stp σ δ G H σ (CK.lendIn is δ) G1 H
  | [], G, _, _, R => ⟨G, R, Stp.refl⟩
  | i :: is, _, _, _, R => by
    obtain ⟨G1, R1, s1⟩ := R.frz1 i
    obtain ⟨G2, R2, s2⟩ := Rel.lendIn is R1
    exact ⟨G2, R2, s1.trans s2⟩
theorem unl_get {is : List Nat} : ∀ {k : Nat} {δ δ1 δn : List Sl}, unl is k δ δ1 = some δn → δn.length = δ.length ∧ ∀ (i : Nat) (s : Sl), δn[i]? = some s →
    (δ[i]? = some s ∧ (∀ t x, s ≠ .bx t x) ∧ ∀ x, s ≠ .mo x) ∨ (∃ ds, δ[i]? = some (.bx .l ds) ∧ k + i ∈ is ∧ s = .bx .l ds) ∨ (∃ ds es, δ[i]? = some (.bx .l ds) ∧ ¬ (k + i ∈ is) ∧ nolAll es = true ∧ ((s = .bx .l es ∧ δ1[i]? = some (.bx .l es)) ∨ (s = .im (.list es) ∧ δ1[i]? = some (.im (.list es)))))
  | _, [], [], δn, h => by cases h; exact ⟨rfl, fun i s e => by simp at e⟩
  | _, [], _ :: _, δn, h => by cases h
  | _, _ :: _, [], δn, h => by cases h
  | k, a :: as, b :: bs, δn, h => by
    obtain ⟨s0, e0, h⟩ := bind_some_of h
    obtain ⟨r, e1, h⟩ := bind_some_of h
    cases h
    obtain ⟨hl, ih⟩ := unl_get e1
    refine ⟨by simp [hl], fun i s e => ?_⟩
    cases i with
    | succ i =>
      have := ih i s (by simpa using e)
      rw [show k + 1 + i = k + (i + 1) by omega] at this
      simpa using this
    | zero =>
      have : s0 = s := by simpa using e
      subst this
      rw [Nat.add_zero]
      cases a with
      | bx t ds =>
        cases t with
        | o fs => cases e0
        | d ks => cases e0
        | l =>
        by_cases hb : is.contains k = true
        · have e0 : (if is.contains k = true then some (Sl.bx .l ds) else unl2 b) = some s0 := e0
          rw [if_pos hb] at e0; cases e0
          exact .inr (.inl ⟨ds, rfl, by rw [List.contains_eq_mem] at hb; exact of_decide_eq_true hb, rfl⟩)
        · have e0 : (if is.contains k = true then some (Sl.bx .l ds) else unl2 b) = some s0 := e0
          rw [if_neg hb] at e0
          have hm : ¬ k ∈ is := fun z => hb (by rw [List.contains_eq_mem]; exact decide_eq_true z)
          unfold unl2 at e0
          split at e0
          · obtain ⟨hc, rfl⟩ := of_ite e0; exact .inr (.inr ⟨_, _, rfl, hm, hc, .inl ⟨rfl, rfl⟩⟩)
          · obtain ⟨hc, rfl⟩ := of_ite e0; exact .inr (.inr ⟨_, _, rfl, hm, hc, .inr ⟨rfl, rfl⟩⟩)
          · cases e0
      | no => cases e0; exact .inl ⟨rfl, (fun _ _ z => nomatch z), fun _ z => nomatch z⟩
      | im d => cases e0; exact .inl ⟨rfl, (fun _ _ z => nomatch z), fun _ z => nomatch z⟩
      | fz d => cases e0; exact .inl ⟨rfl, (fun _ _ z => nomatch z), fun _ z => nomatch z⟩
      | raw d => cases e0; exact .inl ⟨rfl, (fun _ _ z => nomatch z), fun _ z => nomatch z⟩
      | mo d => cases e0
open Classical in
theorem lend_go [mm : Memo] [Triv mm] {is : List Nat} {F : Ex} {σ : SS} {H : Hp} {Q : VK} (h : tD K (dLend is F) σ H Q) : tD K F σ H Q := by
  obtain ⟨G, δ, r, δn, R, e, q⟩ := h
  obtain ⟨⟨ra, δ1⟩, e1, e⟩ := bind_some_of e
  obtain ⟨hr, e⟩ := of_ite0 e
  obtain ⟨δn', hu, e⟩ := bind_some_of e
  cases e
  obtain ⟨G1, R1, st1⟩ := R.lendIn is
  refine ⟨G1, _, ra, δ1, R1, e1, fun v G' H' R' st rv => ?_⟩
  obtain ⟨hn, hg⟩ := unl_get hu
  let Lp : Addr → Prop := fun a => ∃ i ds, i ∈ is ∧ σ[i]? = some (some (.ref a)) ∧ δ[i]? = some (.bx .l ds)
  let G2 : Hp := fun a => if Lp a then none else G' a
  have g2n : ∀ {a : Addr}, ¬ Lp a → G2 a = G' a := fun h => if_neg h
  have g2l : ∀ {a : Addr}, Lp a → G2 a = none := fun h => if_pos h
  have lp1 : ∀ {a : Addr}, Lp a → (∃ ws, G' a = some (.lst ws) ∧ H a = some (.lst ws)) ∧ G a = none := by
    rintro a ⟨i, ds, k1, k2, k3⟩
    obtain ⟨u, m1, m2⟩ := R1.im (lendIn_mem k1 k3)
    rw [k2] at m1; cases m1
    cases m2 with
    | lst n1 n2 =>
      refine ⟨⟨_, st.same _ _ n1, R1.sub _ _ n1⟩, ?_⟩
      obtain ⟨p, ws, z1, _, z2, _⟩ := R.ow k3
      rw [k2] at z1; cases z1; exact z2
  have nol : ∀ a u, G' a = some u → (∀ ws, u ≠ .lst ws) → G2 a = some u := fun a u h1 h2 => by
    rw [g2n]; exact h1
    intro z
    obtain ⟨⟨ws, z1, _⟩, _⟩ := lp1 z
    rw [h1] at z1; cases z1; exact h2 _ rfl
  have sg : Same G G2 := fun a u h1 => by
    rw [g2n]; exact st.same _ _ (st1.same _ _ h1)
    intro z
    rw [(lp1 z).2] at h1; cases h1
  have sub2 : ∀ a u, G2 a = some u → G' a = some u := fun a u h1 => by
    by_cases z : Lp a
    · rw [g2l z] at h1; cases h1
    · rw [g2n z] at h1; exact h1
  have own : ∀ {a : Addr}, Own σ δn a → Own σ δ a := by
    rintro a ⟨i, t, es, k1, k2⟩
    rcases hg i _ k2 with ⟨_, z⟩ | ⟨ds, z, _⟩ | ⟨ds, es', z, _⟩
    · exact absurd rfl (z.1 t es)
    · exact ⟨i, .l, ds, k1, z⟩
    · exact ⟨i, .l, ds, k1, z⟩
  have stA := st1.trans st
  have Rn : Rel K G2 H' σ δn := by
    refine ⟨fun a o ha => R'.sub a o (sub2 a o ha), by rw [hn]; exact R.len, fun i s hs => ?_, fun i j p tt uu ds es k1 k2 k3 k4 => ?_, Triv.all _ _⟩
    · rcases hg i s hs with ⟨z, z2⟩ | ⟨ds, z, hm, rfl⟩ | ⟨ds, es, z, hm, hf, ⟨rfl, hd⟩ | ⟨rfl, hd⟩⟩
      · exact (R.slot i s z).same sg (fun p t ws ds e => absurd e (z2.1 t ds)) fun x p e => absurd e (z2.2 x)
      · rw [Nat.zero_add] at hm
        obtain ⟨p, ws, k1, k2, k3, k4⟩ := R.ow z
        have lp : Lp p := ⟨i, ds, hm, k1, z⟩
        obtain ⟨⟨ws', z1, z2⟩, _⟩ := lp1 lp
        rw [k2] at z2; cases z2
        exact ⟨p, ws, by rw [k1]; rfl, R'.sub _ _ z1, g2l lp, k4.same sg⟩
      · obtain ⟨p, ws, k1, k2, k3, k4⟩ := R'.ow hd
        refine ⟨p, ws, by rw [k1]; rfl, k2, ?_, k4.nol nol hf⟩
        cases hx : G2 p with
        | none => rfl
        | some u => rw [sub2 _ _ hx] at k3; cases k3
      · rw [Nat.zero_add] at hm
        obtain ⟨u, k1, k2⟩ := R'.im hd
        cases k2 with
        | lst n1 n2 =>
          refine ⟨_, by rw [k1]; rfl, .lst ?_ (n2.nol nol hf)⟩
          rw [g2n]; exact n1
          rintro ⟨j, ds', m1, m2, m3⟩
          have := R.inj i j _ .l .l ds ds' k1 z m2 m3
          subst this
          exact hm m1
    · obtain ⟨d1, z1⟩ : ∃ d1, δ[i]? = some (.bx .l d1) := by
        rcases hg i _ k2 with ⟨_, z⟩ | ⟨d1, z, _⟩ | ⟨d1, es', z, _⟩
        · exact absurd rfl (z.1 tt ds)
        · exact ⟨d1, z⟩
        · exact ⟨d1, z⟩
      obtain ⟨d2, z2⟩ : ∃ d2, δ[j]? = some (.bx .l d2) := by
        rcases hg j _ k4 with ⟨_, z⟩ | ⟨d1, z, _⟩ | ⟨d1, es', z, _⟩
        · exact absurd rfl (z.1 uu es)
        · exact ⟨d1, z⟩
        · exact ⟨d1, z⟩
      exact R.inj i j p .l .l d1 d2 k1 z1 k3 z2
  refine q v G2 H' Rn ⟨fun a o ha no => ⟨fun nv => (stA.keep a o ha no).1 nv, fun z => no (own z)⟩, stA.dom, sg, fun a o h => stA.grow a o (sub2 a o h)⟩ ?_
  cases ra with
  | im d => exact Rp.nol nol rv hr
  | bx t ds =>
    cases t with
    | o fs => cases hr
    | d ks => cases hr
    | l =>
    obtain ⟨p, ws, h1, h2, h3, h4, h5, h6⟩ := rv
    refine ⟨p, ws, h1, h2, ?_, fun z => ?_, h5, h6.nol nol hr⟩
    · cases hx : G2 p with
      | none => rfl
      | some u => rw [sub2 _ _ hx] at h3; cases h3
    · obtain ⟨_, t', ws', z'⟩ := R.gOwn (own z)
      exact z'.not h5
  | no => cases hr
  | fz d => cases hr
  | raw d => cases hr
  | mo d => cases hr
theorem de_lend [mm : Memo] [Triv mm] {X : Cx} {e : Expr} {F : Ex} (is : List Nat) (h : DE X e F) : DE X e (dLend is F) := PE.by h fun _ _ _ g => lend_go g
end
end CK
namespace CK
open PySem PySem.Spec PyProof.Rows L2
variable [Memo]
def memD : PyData → PyData → Option Bool
  | d, .list ds => if SeqAt.shaped d = true ∧ SeqAt.shaped (.list ds) = true then some (ds.any fun z => PyData.eqv z d) else none
  | d, .tuple ds => if SeqAt.shaped d = true ∧ SeqAt.shaped (.tuple ds) = true then some (ds.any fun z => PyData.eqv z d) else none
  | _, _ => none
section
variable {X : Cx} {a b e : Expr} {oa ob : Od} {F F1 F2 : Ex} {pos p : Pos}
def nmemD (d e : PyData) : Option Bool := (memD d e).bind fun b => some (!b)
end
def rgD (a b : Int) : List PyData := (List.range (b - a).toNat).map fun i => .int (a + (i : Nat))
section
variable {X : Cx} {a b e : Expr} {F F1 F2 : Ex} {pos p p2 q : Pos}
def dLR1 (F : Ex) : Ex := fun δ => (F δ).bind fun x => (intOf x.1).bind fun n => if 0 ≤ n ∧ n ≤ LINE then some (.bx .l (rgD 0 n), x.2) else none
def dLR2 (F1 F2 : Ex) : Ex := fun δ => (F1 δ).bind fun x => (intOf x.1).bind fun n => (F2 x.2).bind fun y => (intOf y.1).bind fun m => if 0 ≤ n ∧ n ≤ LINE ∧ 0 ≤ m ∧ m ≤ LINE then some (.bx .l (rgD n m), y.2) else none
end
def nubI : List Int → List Int
  | [] => []
  | a :: r => if a ∈ r then nubI r else a :: nubI r
def usortI (l : List Int) : List Int := sortI (nubI l)
def usortD : PyData → Option Sl
  | .list ds => (intsD ds).bind fun ns => if ns.length < 64 then some (.bx .l ((usortI ns).map PyData.int)) else none
  | _ => none
section
variable {X : Cx} {a b c d e : Expr} {Fa Fb Fc Fd F : Ex} {pos p : Pos}
/-- a op b op c op d of ints -/
def dCh3 (f g h : Int → Int → Bool) (a b c d : Ex) : Ex := fun δ => (a δ).bind fun x => (intOf x.1).bind fun i => (b x.2).bind fun y => (intOf y.1).bind fun j => if f i j = true then (c y.2).bind fun z => (intOf z.1).bind fun k => if g j k = true then (d z.2).bind fun u => (intOf u.1).bind fun l => some (.im (.bool (h k l)), u.2) else some (.im (.bool false), z.2) else some (.im (.bool false), y.2)
def idxL (d : PyData) : List PyData → Option Nat
  | [] => none
  | z :: r => if PyData.eqv z d = true then some 0 else (idxL d r).bind fun n => some (n + 1)
def lstS : Option Sl → Option (List PyData)
  | some (.im (.list ds)) => some ds
  | some (.bx .l ds) => some ds
  | _ => none
def dIdx (i : Nat) (F : Ex) : Ex := fun δ => (lstS δ[i]?).bind fun _ => (F δ).bind fun x => x.1.sh.bind fun d => (lstS x.2[i]?).bind fun es => if SeqAt.shaped (.list es) = true ∧ SeqAt.shaped d = true then (idxL d es).bind fun j => some (.im (.int (j : Nat)), x.2) else none
def tgS (i : Nat) (Fi : Ex) : Tg := fun d δ => (match δ[i]? with | some (.bx .l _) => some () | _ => none).bind fun _ => (Fi δ).bind fun y => (intOf y.1).bind fun j =>
  (match y.2[i]? with | some (.bx .l ds) => some ds | _ => none).bind fun ds => (ixN ds.length j).bind fun k => some (y.2.set i (.bx .l (ds.set k d)))
variable {P : List Nat} {es : List Expr} {t : Tg} {u : List PyData → List Sl → Option (List Sl)}
end
end CK
namespace CK
open PySem PySem.Spec PyProof.Rows L2
variable [Memo]
section
variable {X : Cx} {P : List Nat} {e a b : Expr} {es : List Expr} {pos p px px2 cpos : Pos} {x y z : Str} {i k kA kB n : Nat} {fA fB : Addr} {dA dB : FuncData} {psA psB : List Str} {mA mB : Fn} {as : List Ag} {ob : Od}
def sPick (i : Nat) (c : Tt) (A B : Ex) (b : Od) : Sm := fun δ => (c δ).bind fun x => if i < x.2.length then sRet (dOp2 ixD (.ex (if x.1 = true then A else B)) b) (x.2.set i .no) else none
end
def ownL : Sl → Option (List PyData)
  | .bx .l ds => some ds
  | _ => none
def dOrL (f g : Ex) : Ex := fun δ => (f δ).bind fun x => (ownL x.1).bind fun ds => if ds.isEmpty = true then g x.2 else some x
def sPar4 (i j l m : Nat) (F1 F2 F3 F4 : Ex) : Sm := fun δ => (F1 δ).bind fun x => (F2 x.2).bind fun y => (F3 y.2).bind fun z => (F4 z.2).bind fun u => some (.nx, (((u.2.set i x.1).set j y.1).set l z.1).set m u.1)
end CK
namespace CK
open PySem PySem.Spec PyProof.Rows L2
/-- C(..): the new instance's dict lies right ahead of it -/
def tMake (C : Addr) (sp : Sp) (dvs : List V) (E : XK) (t : TA) : TE := fun σ H Q => t σ H fun vs H1 => ∀ x (dx : Dct x), H1 x = none → H1 dx.1 = none → dx.1 ≠ x →
  sp (.ref x :: (vs ++ dvs)) (upd (upd H1 dx.1 (.own x)) x (.ins C dx.1 [])) (fun v H2 => v = .non ∧ Q (.ref x) H2) E
variable [Memo]
theorem guards_in1 {A : Around} (h : A.guards = some []) : A.in1.guards = some [] := by
  first | exact h | simpa [Around.in1] using h
theorem guards_make {A : Around} {C : Addr} {us : List Value} {kw : List (Str × Value)} (h : A.guards = some []) : (A.under (.builtin "type.__call__" ⟨.ref C :: us, kw⟩)).guards = some [] := by
  first | exact h | simpa [Around.under, Code.weight, Code.isCreation, Code.isGuard, Code.isCaller, Code.frames, Code.isFrame, guardIds] using h
section
variable {X : Cx} {CX : CXT} {k : Nat} {f g C p : Addr} {fd : FuncData} {ps : List Str} {sp : Sp} {E : XK} {x m : Str} {np pos apos : Pos} {e o : Expr} {es : List Expr} {ta : TE} {t : TA}
theorem runG' {pins : List (Addr × Obj)} {σ : SS} {H : Hp} {s : Shared} {Q : VK} {us : List Value} {vs : List V} (hgd : X.A.guards = some []) (F : FnG X.prog X.w X.K X.mg X.base CX k f fd ps sp) (hr : Room k X.A) (hb : Binds X.K fd ps []) (hx : Passes CX X E)
    (I : Inv X pins σ H s) (r : Vals vs us) (h : sp vs H Q E) : wpAny (model X.prog X.w) X.A (call (.ref f) us) (EP X pins σ Q) X.xe s := by
  have hl : (us ++ []).length = ps.length := by
    rw [List.append_nil, ← r.length]
    exact F.arity _ _ _ _ h
  have hbs := hb s us I.kIn hl
  rw [List.append_nil] at hbs
  exact runG (args := ⟨us, []⟩) hgd F hr hx I hbs r h
theorem pe_methG {pl : Sem Bool} (hgd : X.A.guards = some []) (he : PE X o ta) (c : Cls X.K C) (hm : Meth X.K C m f) (F : FnG X.prog X.w X.K X.mg X.base CX k f fd ps sp) (hr : Room k X.A) (hb : Binds X.K fd ps []) (hx : Passes CX X E) (ha : PA X (e :: es) t)
    (hst : starEach (e :: es) X.env = (false, eval e X.env) :: starEach es X.env := by rfl) (hpl : (backTo pos (starEach es X.env)).any (·.1) = false := by rfl)
    (ht : eval (.Call (.Attribute o m apos) (e :: es) [] pos) X.env = (do
      let ov ← eval o X.env
      standAt apos.atName
      let (f, first) ← holding [ov] (getMethod ov m pl)
      callWith pos f first (backTo pos (starEach (e :: es) X.env)) (backToKw pos (keywordEach [] X.env))) := by rfl) :
    PE X (.Call (.Attribute o m apos) (e :: es) [] pos) (tMeth C m sp [] E ta t) := by
  refine ⟨fun pins s σ H Q I h => ?_⟩
  refine PySem.W.methodCall_KW (pl := pl) (thn (he.run pins s σ H _ I h) fun u s1 ⟨x, H1, I1, rx, a, dx, fs, ex, ea, l, q⟩ => ?_) ht
  subst ex
  obtain rfl : u = Value.ref a := rx
  refine getmeth_ok I1 ea c hm l ?_
  refine PySem.W.callWith_K (first := [.ref a]) (h₀ := X.base) I.ok.mod.kin hm.kp (thn (ha.run pos pins s1 σ H1 _ I1 q) fun us s2 ⟨vs, H2, I2, r, q2⟩ => ⟨I2.kIn, ?_⟩) hst hpl
  have q2 : sp (.ref a :: (vs ++ [])) H2 Q E := q2
  rw [List.append_nil] at q2
  exact runG' (us := .ref a :: us) (vs := .ref a :: vs) hgd F hr hb hx I2 (.cons rfl r) q2
theorem pe_methG0 {pl : Sem Bool} (hgd : X.A.guards = some []) (he : PE X o ta) (c : Cls X.K C) (hm : Meth X.K C m f) (F : FnG X.prog X.w X.K X.mg X.base CX k f fd ps sp) (hr : Room k X.A) (hb : Binds X.K fd ps []) (hx : Passes CX X E)
    (ht : eval (.Call (.Attribute o m apos) [] [] pos) X.env = (do
      let ov ← eval o X.env
      standAt apos.atName
      let (f, first) ← holding [ov] (getMethod ov m pl)
      callWith pos f first (backTo pos (starEach [] X.env)) (backToKw pos (keywordEach [] X.env))) := by rfl) :
    PE X (.Call (.Attribute o m apos) [] [] pos) (tMeth C m sp [] E ta tNil) := by
  refine ⟨fun pins s σ H Q I h => ?_⟩
  refine PySem.W.methodCall_KW (pl := pl) (thn (he.run pins s σ H _ I h) fun u s1 ⟨x, H1, I1, rx, a, dx, fs, ex, ea, l, q⟩ => ?_) ht
  subst ex
  obtain rfl : u = Value.ref a := rx
  refine getmeth_ok I1 ea c hm l ?_
  exact PySem.W.callWith_K0 (first := [.ref a]) I1.kIn hm.kp (runG' (us := [.ref a]) (vs := [.ref a]) hgd F hr hb hx I1 (.cons rfl .nil) q)
theorem pe_makeG (hgd : X.A.guards = some []) (M : Mk X.K C f) (F : FnG X.prog X.w X.K X.mg X.base CX k f fd ps sp) (hr : Room (k + 1) X.A) (hg : Gl X x) (hm : X.mg x = some (.ref C)) (hb : Binds X.K fd ps []) (hx : Passes CX X E)
    (ha : PA X (e :: es) t) (hdb : (x == ("__debug__" : Str)) = false := by decide) (he : starEach (e :: es) X.env = (false, eval e X.env) :: starEach es X.env := by rfl) (hpl : (backTo pos (starEach es X.env)).any (·.1) = false := by rfl) :
    PE X (.Call (.Name x np) (e :: es) [] pos) (tMake C sp [] E t) := by
  refine ⟨fun pins s σ H Q I h => ?_⟩
  refine wpAny_Call_Name_kw (ld_glob I hg hm ?_ hdb)
  refine PySem.W.callWith_K (h₀ := X.base) I.ok.mod.kin M.kp (thn (ha.run pos pins s σ H _ I h) fun us s1 ⟨vs, H1, I1, r, q⟩ => ⟨I1.kIn, ?_⟩) he hpl
  have hq := q (s1.heap.objs.size + 1) ⟨s1.heap.objs.size, rfl⟩ (I1.hok.fresh (Nat.le_succ _)) (I1.hok.fresh (Nat.le_refl _)) (Nat.ne_of_lt (Nat.lt_succ_self _))
  have I2 := Inv.made (C := C) I1
  rw [List.append_nil] at hq
  have r2 : Vals (V.ref (s1.heap.objs.size + 1) :: vs) (Value.ref (s1.heap.objs.size + 1) :: us) := .cons rfl r
  have hl : (Value.ref (s1.heap.objs.size + 1) :: us ++ []).length = ps.length := by
    have e := r2.length
    rw [F.arity _ _ _ _ hq] at e
    rw [List.append_nil]
    exact e.symm
  have hbs := hb _ (Value.ref (s1.heap.objs.size + 1) :: us) I2.kIn hl
  rw [List.append_nil] at hbs
  refine wpAny_call (make_map (f := f) I1.kIn M.makes M.init (beq_iff_eq.mp M.fn) (codeAny_mono (F.go _ X.stack _ _ ⟨Value.ref (s1.heap.objs.size + 1) :: us, []⟩ (Value.ref (s1.heap.objs.size + 1) :: us) _ _ E (guards_make hgd) (hr.make C us [])
    (I2.env0.make C us []) hbs r2 hq) fun r s' hq' => ?_))
  cases r with
  | error e => exact hx pins σ _ _ e s' I2 hq'
  | ok fl =>
    cases fl with
    | ret u =>
      obtain ⟨v, H', I3, rv, ev, q3⟩ := I2.after hq'
      subst ev
      exact ⟨rv, ⟨V.ref (s1.heap.objs.size + 1), H', I3, rfl, q3⟩⟩
    | next => exact False.elim hq'
    | brk => exact False.elim hq'
    | cont => exact False.elim hq'
theorem pe_propG (hgd : X.A.guards = some []) {fn : Str} (he : PE X e ta) (c : Cls X.K C) (hp : PropOf X.K C fn p g) (F : FnG X.prog X.w X.K X.mg X.base CX k g fd ps sp) (hr : Room (k + 1) X.A) (hb : Binds X.K fd ps []) (hx : Passes CX X.nox E)
    (hab : attributeBase e fn X.env (eval e X.env) = eval e X.env) : PE X (.Attribute e fn pos) (tProp C sp [] E ta) := by
  refine ⟨fun pins s σ H Q I h => ?_⟩
  refine attr_of hab (thn (he.run pins s σ H _ I h) fun u s1 ⟨x, H1, I1, rx, a, dx, fs, ex, ea, q⟩ => ?_)
  subst ex
  obtain rfl : u = Value.ref a := rx
  obtain ⟨mA, O, _, _, _, _⟩ := ins_get I1.hok ea
  obtain ⟨od, J, _⟩ := O.look
  obtain ⟨rest, hrec⟩ := hp.rec_
  have I2 := I1.tok (s1.toks + 1)
  have hl : ([Value.ref a] ++ []).length = ps.length := by
    rw [← F.arity _ _ _ _ q]; rfl
  have hc : (PySem.W.clsIn X.K C).isSome = true := by
    obtain ⟨cd, hc, _⟩ := PySem.W.any_some c.hd
    rw [hc]
    rfl
  refine PySem.W.get_bind I1.kIn J (PySem.W.plainGet_of (c.get fn)).1 (PySem.W.findObj_data hc hp.at_ hp.get hp.tak) (PySem.W.plainGet_of (c.get fn)).2 (wpAny_call (PySem.W.prop_get (s := { s1 with toks := s1.toks + 1 }) I1.kIn hrec ?_))
  refine codeAny_mono (F.go X.A.in1 X.stack { s1 with toks := s1.toks + 1 } H1 ⟨[.ref a], []⟩ [.ref a] [.ref a] Q E (guards_in1 hgd) hr.in1 I2.env0.in1 (hb _ [.ref a] I2.kIn hl) (.cons rfl .nil) q) fun r s' hq => ?_
  cases r with
  | error er => exact False.elim (hx pins σ H1 { s1 with toks := s1.toks + 1 } er s' (I2.wish _) hq)
  | ok fl =>
    cases fl with
    | ret u =>
      obtain ⟨v, H', I3, rv, q3⟩ := I2.after hq
      show wpAny _ _ (handedOut u) _ _ _
      rw [PySem.W.handedOut_of (handed_of rv)]
      exact wpAny_pure ⟨v, H', I3, rv, q3⟩
    | next => exact False.elim hq
    | brk => exact False.elim hq
    | cont => exact False.elim hq
end
def objS : Option Sl → Option (List Str × List PyData)
  | some (.bx (.o fs) ds) => some (fs, ds)
  | _ => none
def dFld (i : Nat) (f : Str) : Ex := fun δ => (objS δ[i]?).bind fun o => ((o.1.zip o.2).lookup f).bind fun d => some (.im d, δ)
def putD (f : Str) (d : PyData) : List Str → List PyData → Option (List Str × List PyData)
  | [], [] => some ([f], [d])
  | g :: fs, x :: ds => if g = f then some (g :: fs, d :: ds) else (putD f d fs ds).bind fun r => some (g :: r.1, x :: r.2)
  | _, _ => none
/-- o.f = e -/
def sFldD (i : Nat) (f : Str) (F : Ex) : Sm := fun δ => (F δ).bind fun x => x.1.sh.bind fun d => (objS x.2[i]?).bind fun o => if o.1.length < 9 then (putD f d o.1 o.2).bind fun r => some (.nx, x.2.set i (.bx (.o r.1) r.2)) else none
/-- o.m(..) -/
def dMeth (m : Str) (fn : Fn) (i : Nat) (as : List Ag) : Ex := fun δ => (objS δ[i]?).bind fun o => if o.1.contains m = false then dCall fn (.io i :: as) δ else none
/-- a property -/
def dProp (fn : Fn) (i : Nat) : Ex := fun δ => (objS δ[i]?).bind fun _ => dCall fn [.io i] δ
/-- C(..) -/
def dMake (fn : Fn) (as : List Ag) : Ex := fun δ => if agI as = [] then (agE as δ).bind fun x => (agS as x.1 x.2).bind fun ss => (fn (.bx (.o []) [] :: ss)).bind fun y => match y with
  | (.im .none, .bx (.o fs) ds :: _) => some (.bx (.o fs) ds, x.2)
  | _ => none else none
theorem objS_at {o : Option Sl} {z : List Str × List PyData} (h : objS o = some z) : o = some (.bx (.o z.1) z.2) := by
  unfold objS at h
  split at h
  · cases h; rfl
  · cases h
section
variable {K : PySem.W.Frag} {G G' H H' : Hp} {σ : SS} {δ : List Sl}
theorem zip_get {f : Str} {d : PyData} : ∀ {fs : List Str} {ws : List V} {ds : List PyData}, RpAll K G ws ds → (fs.zip ds).lookup f = some d → ∃ v, (fs.zip ws).lookup f = some v ∧ Rp K G v d
  | [], _, _, _, h => by simp at h
  | g :: fs, _, _, .nil, h => by simp at h
  | g :: fs, v :: ws, x :: ds, .cons a b, h => by
    rw [List.zip_cons_cons, List.lookup_cons] at h ⊢
    split at h
    · cases h; exact ⟨v, rfl, a⟩
    · exact zip_get b h
theorem zip_none {f : Str} : ∀ {fs : List Str} {ws : List V}, fs.contains f = false → (fs.zip ws).lookup f = none
  | [], _, _ => by simp
  | g :: fs, [], _ => by simp
  | g :: fs, w :: ws, h => by
    rw [List.contains_cons, Bool.or_eq_false_iff] at h
    rw [List.zip_cons_cons, List.lookup_cons, h.1]
    exact zip_none h.2
theorem putD_ok {f : Str} {d : PyData} {v : V} (hv : Rp K G v d) : ∀ {fs : List Str} {ds : List PyData} {ws : List V} {r : List Str × List PyData}, RpAll K G ws ds → putD f d fs ds = some r → ∃ ws', RpAll K G ws' r.2 ∧ r.1.zip ws' = putF f v (fs.zip ws)
  | [], [], _, r, h, e => by
    cases h; cases e
    exact ⟨[v], .cons hv .nil, rfl⟩
  | [], _ :: _, _, r, h, e => by cases e
  | _ :: _, [], _, r, h, e => by cases e
  | g :: fs, x :: ds, _, r, .cons (v := w) (vs := ws) a b, e => by
    unfold putD at e
    by_cases hg : g = f
    · rw [if_pos hg] at e; cases e
      refine ⟨v :: ws, .cons hv b, ?_⟩
      rw [List.zip_cons_cons, List.zip_cons_cons]
      unfold putF
      rw [if_pos hg]
    · rw [if_neg hg] at e
      obtain ⟨r1, e1, e⟩ := bind_some_of e
      cases e
      obtain ⟨ws', k1, k2⟩ := putD_ok hv b e1
      refine ⟨w :: ws', .cons a k1, ?_⟩
      rw [List.zip_cons_cons, List.zip_cons_cons, k2]
      conv => rhs; unfold putF
      rw [if_neg hg]
end
section
variable {X : Cx} {P : List Nat} {k n : Nat} {f g p : Addr} {fd : FuncData} {ps : List Str} {fn : Fn} {x m : Str} {np px pos apos : Pos} {e : Expr} {es : List Expr} {as : List Ag} {F : Ex}
theorem de_fld {a : Str} (i : Nat) (c : Cls X.K Memo.C) (na : NoAttr X.K Memo.C a) (hN : X.N[i]? = some x := by rfl) (hv : Vis X.env.scope x := by first | exact Or.inl rfl | exact Or.inr (Or.inl rfl) | exact Or.inr (Or.inr rfl)) (hd : (x == ("__debug__" : Str)) = false := by decide)
    (hcd : (x == ("__classdict__" : Str)) = false := by decide) (hb : attributeBase (.Name x px) a X.env (eval (.Name x px) X.env) = eval (.Name x px) X.env := by rfl) : DE X (.Attribute (.Name x px) a pos) (dFld i a) :=
  PE.by (pe_fld (pe_var hN hv hd hcd) hb) fun σ H Q h => by
    obtain ⟨G, δ, r, δ', R, e, q⟩ := h
    obtain ⟨o, e0, e⟩ := bind_some_of e
    obtain ⟨d, e1, e⟩ := bind_some_of e
    cases e
    obtain ⟨p, ws, k1, ⟨dx, k2⟩, k3, k4⟩ := R.bx (objS_at e0)
    obtain ⟨v, l, rv⟩ := zip_get k4 e1
    exact ⟨_, k1, p, _, dx, _, v, rfl, k2, c, na, l, q v G H R Stp.refl rv⟩
theorem ds_fld {a : Str} (i : Nat) (c : Cls X.K Memo.C) (na : NoAttr X.K Memo.C a) (he : DE X e F) (hN : X.N[i]? = some x := by rfl) (hv : Vis X.env.scope x := by first | exact Or.inl rfl | exact Or.inr (Or.inl rfl) | exact Or.inr (Or.inr rfl)) (hd : (x == ("__debug__" : Str)) = false := by decide)
    (hcd : (x == ("__classdict__" : Str)) = false := by decide) (hs : swapsWith e (some (.Attribute (.Name x px) a apos)) pos.line X.env = pure false := by rfl) : DS X P (.Assign [.Attribute (.Name x px) a apos] e pos) (sFldD i a F) :=
  PS.by (ps_fld (pe_var hN hv hd hcd) he hs) fun D σ H h => by
    obtain ⟨G, δ, fl, δ', R, e, q⟩ := h
    obtain ⟨⟨r1, δ1⟩, e1, e⟩ := bind_some_of e
    obtain ⟨d, e2, e⟩ := bind_some_of e
    obtain ⟨o, e3, e⟩ := bind_some_of e
    obtain ⟨hl, e⟩ := of_ite0 e
    obtain ⟨r, e4, e⟩ := bind_some_of e
    cases e
    refine tD_run R e1 fun v G1 H1 R1 st1 rv => ?_
    obtain ⟨G2, R2, st2, _, rp⟩ := RV.shared R1 st1 rv e2
    have hi := objS_at e3
    obtain ⟨p, ws, k1, ⟨dx, k2⟩, k3, k4⟩ := R2.bx hi
    obtain ⟨ws', j1, j2⟩ := putD_ok rp k4 e4
    obtain ⟨R3, st3⟩ := R2.writeB (t' := .o r.1) (o := .ins Memo.C dx (putF a v (o.1.zip ws))) hi k1 ⟨dx, by rw [upd_same, j2]⟩ j1
    refine ⟨_, k1, p, _, dx, _, rfl, k2, c, na, ?_, q σ G2 _ R3 (st2.trans st3) Pin.refl⟩
    rw [List.length_zip]; omega
theorem meth_go [Still ‹Memo›] {H : Hp} {Q : VK} {E : XK} {σ : SS} {i : Nat} (nd : (agI (.io i :: as)).Nodup) (hn : as.length + 1 = n) (h : tD X.K (dMeth m fn i as) σ H Q) : tMeth Memo.C m (spD X.K n fn) [] E (tVar i) (tAg X.K as) σ H Q := by
  obtain ⟨G, δ, r, δ', R, e, q⟩ := h
  obtain ⟨o, e0, e⟩ := bind_some_of e
  obtain ⟨hc, e⟩ := of_ite0 e
  obtain ⟨p, ws, k1, ⟨dx, k2⟩, k3, k4⟩ := R.bx (objS_at e0)
  refine ⟨_, k1, p, dx, _, rfl, k2, zip_none hc, ?_⟩
  obtain ⟨G2, δ2, ps, δ3, R2, e2, q2⟩ := call_go (E := E) nd hn ⟨G, δ, r, δ', R, e, q⟩
  obtain ⟨u, e4, e2⟩ := bind_some_of e2
  obtain ⟨⟨ps1, δ4⟩, e3, e2⟩ := bind_some_of e2
  cases e2
  refine ⟨G2, δ2, ps1, _, R2, e3, fun vs G3 H3 R3 st3 aw => ?_⟩
  show spD X.K n fn (.ref p :: (vs ++ [])) H3 Q E
  rw [List.append_nil]
  exact q2 (.ref p :: vs) G3 H3 R3 st3 ⟨k1, aw⟩
theorem de_meth [Still ‹Memo›] {pl : Sem Bool} (i : Nat) (hgd : X.A.guards = some []) (c : Cls X.K Memo.C) (hm : Meth X.K Memo.C m f) (F : FnG X.prog X.w X.K X.mg X.base CX0 k f fd ps (spD X.K n fn)) (hr : Room k X.A) (hb : Binds X.K fd ps []) (ha : DA X (e :: es) as) (nd : (agI (.io i :: as)).Nodup := by decide) (hn : as.length + 1 = n := by rfl)
    (hN : X.N[i]? = some x := by rfl) (hv : Vis X.env.scope x := by first | exact Or.inl rfl | exact Or.inr (Or.inl rfl) | exact Or.inr (Or.inr rfl)) (hd : (x == ("__debug__" : Str)) = false := by decide) (hcd : (x == ("__classdict__" : Str)) = false := by decide)
    (hst : starEach (e :: es) X.env = (false, eval e X.env) :: starEach es X.env := by rfl) (hpl : (backTo pos (starEach es X.env)).any (·.1) = false := by rfl)
    (ht : eval (.Call (.Attribute (.Name x px) m apos) (e :: es) [] pos) X.env = (do
      let ov ← eval (.Name x px) X.env
      standAt apos.atName
      let (f, first) ← holding [ov] (getMethod ov m pl)
      callWith pos f first (backTo pos (starEach (e :: es) X.env)) (backToKw pos (keywordEach [] X.env))) := by rfl) :
    DE X (.Call (.Attribute (.Name x px) m apos) (e :: es) [] pos) (dMeth m fn i as) :=
  PE.by (pe_methG (pl := pl) hgd (pe_var hN hv hd hcd) c hm F hr hb pass0 ha hst hpl ht) fun σ H Q h => meth_go nd hn h
theorem de_meth0 [Still ‹Memo›] {pl : Sem Bool} (i : Nat) (hgd : X.A.guards = some []) (c : Cls X.K Memo.C) (hm : Meth X.K Memo.C m f) (F : FnG X.prog X.w X.K X.mg X.base CX0 k f fd ps (spD X.K n fn)) (hr : Room k X.A) (hb : Binds X.K fd ps []) (hn : 1 = n := by rfl)
    (hN : X.N[i]? = some x := by rfl) (hv : Vis X.env.scope x := by first | exact Or.inl rfl | exact Or.inr (Or.inl rfl) | exact Or.inr (Or.inr rfl)) (hd : (x == ("__debug__" : Str)) = false := by decide) (hcd : (x == ("__classdict__" : Str)) = false := by decide)
    (ht : eval (.Call (.Attribute (.Name x px) m apos) [] [] pos) X.env = (do
      let ov ← eval (.Name x px) X.env
      standAt apos.atName
      let (f, first) ← holding [ov] (getMethod ov m pl)
      callWith pos f first (backTo pos (starEach [] X.env)) (backToKw pos (keywordEach [] X.env))) := by rfl) :
    DE X (.Call (.Attribute (.Name x px) m apos) [] [] pos) (dMeth m fn i []) :=
  PE.by (pe_methG0 (pl := pl) hgd (pe_var hN hv hd hcd) c hm F hr hb pass0 ht) fun σ H Q h => by
    obtain ⟨v, k1, a, dx, fs, z1, z2, z3, G, δ, ps, δ', R, e, q⟩ := meth_go (E := E0) (n := n) (as := []) (by simp [agI]) hn h
    cases e
    exact ⟨v, k1, a, dx, fs, z1, z2, z3, q [] G H R Stp.refl trivial⟩
theorem de_prop [Still ‹Memo›] {a : Str} (i : Nat) (hgd : X.A.guards = some []) (c : Cls X.K Memo.C) (hp : PropOf X.K Memo.C a p g) (F : FnG X.prog X.w X.K X.mg X.base CX0 k g fd ps (spD X.K 1 fn)) (hr : Room (k + 1) X.A) (hb : Binds X.K fd ps [])
    (hN : X.N[i]? = some x := by rfl) (hv : Vis X.env.scope x := by first | exact Or.inl rfl | exact Or.inr (Or.inl rfl) | exact Or.inr (Or.inr rfl)) (hd : (x == ("__debug__" : Str)) = false := by decide) (hcd : (x == ("__classdict__" : Str)) = false := by decide)
    (hab : attributeBase (.Name x px) a X.env (eval (.Name x px) X.env) = eval (.Name x px) X.env := by rfl) : DE X (.Attribute (.Name x px) a pos) (dProp fn i) :=
  PE.by (pe_propG hgd (pe_var hN hv hd hcd) c hp F hr hb pass0 hab) fun σ H Q h => by
    obtain ⟨G, δ, r, δ', R, e, q⟩ := h
    obtain ⟨o, e0, e⟩ := bind_some_of e
    obtain ⟨p, ws, k1, ⟨dx, k2⟩, k3, k4⟩ := R.bx (objS_at e0)
    refine ⟨_, k1, p, dx, _, rfl, k2, ?_⟩
    obtain ⟨G2, δ2, ps, δ3, R2, e2, q2⟩ := call_go (E := E0) (n := 1) (as := [.io i]) (by simp [agI]) rfl ⟨G, δ, r, δ', R, e, q⟩
    obtain ⟨u, e4, e2⟩ := bind_some_of e2
    obtain ⟨⟨ps1, δ4⟩, e3, e2⟩ := bind_some_of e2
    cases e3
    cases e2
    exact q2 [.ref p] G2 H R2 Stp.refl ⟨k1, trivial⟩
theorem make_go [Still ‹Memo›] {H : Hp} {Q : VK} {E : XK} {σ : SS} (hn : as.length + 1 = n) (h : tD X.K (dMake fn as) σ H Q) : tMake Memo.C (spD X.K n fn) [] E (tAg X.K as) σ H Q := by
  obtain ⟨G, δ, r, δ', R, e, q⟩ := h
  obtain ⟨hi, e⟩ := of_ite0 e
  obtain ⟨⟨ps, δ1⟩, e1, e⟩ := bind_some_of e
  obtain ⟨ss, e2, e⟩ := bind_some_of e
  obtain ⟨⟨r1, ss'⟩, e3, e⟩ := bind_some_of e
  refine ⟨G, δ, ps, δ1, R, e1, fun vs G1 H1 R1 st1 aw x dx nx ndx ne => ?_⟩
  obtain ⟨sl, sg⟩ := agS_get e2 aw
  have vl := agS_len aw
  rw [List.append_nil]
  have hdx : upd H1 dx (.own x) x = none := by rw [upd_ne (Ne.symm ne)]; exact nx
  have new : ∀ {b : Addr} {o : HO}, H1 b = some o → upd (upd H1 dx (.own x)) x (.ins Memo.C dx []) b = some o := fun {b o} hb => by
    rw [upd_ne (ne_of_none hb nx), upd_ne (ne_of_none hb ndx)]; exact hb
  have old : ∀ {b : Addr}, upd (upd H1 dx (.own x)) x (.ins Memo.C dx []) b = none → H1 b = none := fun {b} hb => by
    cases hx : H1 b with
    | none => rfl
    | some o => rw [new hx] at hb; cases hb
  have no : ∀ {j : Nat} {t : Bt} {ds : List PyData}, ss[j]? ≠ some (.bx t ds) := fun {j t ds} hj => by
    obtain ⟨v, _, h⟩ := sg j _ hj
    rcases h with ⟨_, h, _⟩ | ⟨i, _, _, hh, _⟩ | ⟨i, _, hh, _⟩
    · exact h t ds rfl
    · have := agI_mem hh
      rw [hi] at this
      cases this
    · have := agI_mem hh
      rw [hi] at this
      cases this
  have own1 : ∀ {a : Addr}, Own ((V.ref x :: vs).map some) (.bx (.o []) [] :: ss) a → a = x := by
    rintro a ⟨j, t, ds, h1, h2⟩
    cases j with
    | zero => cases h1; rfl
    | succ j => exact absurd h2 no
  have RA : Rel X.K G1 (upd (upd H1 dx (.own x)) x (.ins Memo.C dx [])) ((V.ref x :: vs).map some) (.bx (.o []) [] :: ss) := by
    refine ⟨fun b u hb => new (R1.sub _ _ hb), by simp [sl], fun j s hs => ?_, fun i j p t u ds es h1 h2 h3 h4 => ?_, jN (jN R1.inv ndx) hdx⟩
    · cases j with
      | zero =>
        cases hs
        exact ⟨x, [], rfl, ⟨dx, upd_same⟩, gfree R1.sub nx, .nil⟩
      | succ j =>
        have hs' : ss[j]? = some s := hs
        obtain ⟨v, hv, h⟩ := sg j s hs'
        have ev : (((V.ref x :: vs).map some)[j + 1]?).getD none = some v := by
          show ((vs.map some)[j]?).getD none = some v
          rw [List.getElem?_map, hv]; rfl
        rw [ev]
        rcases h with ⟨h, h', h5⟩ | ⟨i, t, ds, h1, _⟩ | ⟨i, x, h1, _⟩
        · cases s with
          | no => exact h.elim
          | im d => exact ⟨v, rfl, h⟩
          | bx t d => exact absurd rfl (h' t d)
          | fz d => obtain ⟨p, ws, e, q, r⟩ := h; exact ⟨p, ws, by rw [e], q, r⟩
          | raw u => rw [show v = u from h]; rfl
          | mo x => exact h.elim
        · have := agI_mem h1
          rw [hi] at this
          cases this
        · have := agI_mem h1
          rw [hi] at this
          cases this
    · cases i with
      | zero =>
        cases j with
        | zero => rfl
        | succ j => exact absurd h4 no
      | succ i => exact absurd h2 no
  refine ⟨by simp [vl, hn], G1, _, r1, ss', RA, e3, fun v G2 H2 R2 st2 rv => ?_⟩
  dsimp only at e
  split at e
  · rename_i y fs ds rest hy
    cases hy
    cases e
    cases rv
    refine ⟨rfl, ?_⟩
    have R2' := R2.bx (i := 0) rfl
    obtain ⟨p, ws, k1, k2, k3, k4⟩ := R2'
    cases k1
    have nlS : ∀ {a : Addr}, ¬ Memo.W a := fun {a} => Still.st a
    have keep : ∀ {b : Addr} {o : HO}, H1 b = some o → ¬ (VolO o ∧ Memo.W b) → H2 b = some o := fun {b o} hb nv => (st2.keep b o (new hb) fun z => by
      have := own1 z
      subst this
      rw [nx] at hb; cases hb).1 nv
    have gn : ∀ {b : Addr} {o : HO}, H1 b = some o → G1 b = none → G2 b = none := fun {b o} hb hg => by
      cases hx : G2 b with
      | none => rfl
      | some u =>
        rcases st2.grow b u hx with z | z | z
        · rw [hg] at z; cases z
        · rw [new hb] at z; cases z
        · have := own1 z
          subst this
          rw [nx] at hb; cases hb
    have R3 : Rel X.K G2 H2 σ δ' := by
      refine ⟨R2.sub, R1.len, fun i s hs => (R1.slot i s hs).same st2.same (fun p t ws ds e g1 g2 g3 => ?_) (mSt st2.same (fun b φ hb hg => gn hb hg) fun a o e ns => keep e fun z => nlS z.2), R1.inj, R2.inv⟩
      obtain ⟨o1, g1, nv, kb⟩ := g1.at
      exact ⟨kb _ (keep g1 fun z => nv z.1), gn g1 g2⟩
    have st3 : Stp σ δ' G1 H1 σ δ' G2 H2 := by
      refine ⟨fun a o ha na => ⟨keep ha, na⟩, fun a ha => old (st2.dom a ha), st2.same, fun a o ha => ?_⟩
      rcases st2.grow a o ha with z | z | z
      · exact .inl z
      · exact .inr (.inl (old z))
      · have := own1 z
        subst this
        exact .inr (.inl nx)
    refine q (.ref x) G2 H2 R3 (st1.trans st3) ⟨x, ws, rfl, k2, k3, fun z => ?_, st1.dom x nx, k4⟩
    obtain ⟨_, t', ws', z'⟩ := R1.gOwn z
    exact z'.not nx
  · cases e
theorem de_make [Still ‹Memo›] (hgd : X.A.guards = some []) (M : Mk X.K Memo.C f) (F : FnG X.prog X.w X.K X.mg X.base CX0 k f fd ps (spD X.K n fn)) (hr : Room (k + 1) X.A) (hg : Gl X x) (hm : X.mg x = some (.ref Memo.C)) (hb : Binds X.K fd ps []) (ha : DA X (e :: es) as) (hn : as.length + 1 = n := by rfl)
    (hdb : (x == ("__debug__" : Str)) = false := by decide) (he : starEach (e :: es) X.env = (false, eval e X.env) :: starEach es X.env := by rfl) (hpl : (backTo pos (starEach es X.env)).any (·.1) = false := by rfl) :
    DE X (.Call (.Name x np) (e :: es) [] pos) (dMake fn as) :=
  PE.by (pe_makeG hgd M F hr hg hm hb pass0 ha hdb he hpl) fun σ H Q h => make_go (E := E0) hn h
end
def hideS : Sl → Sl
  | .bx (.o _) _ => .no
  | .bx (.d _) _ => .no
  | s => s
def hide : List Sl → List Sl
  | [] => []
  | s :: r => hideS s :: hide r
def unS : Sl → Sl → Sl
  | .bx (.o fs) ds, _ => .bx (.o fs) ds
  | .bx (.d ks) ds, _ => .bx (.d ks) ds
  | _, x => x
def unh : List Sl → List Sl → List Sl
  | s :: r, x :: y => unS s x :: unh r y
  | _, y => y
def dHide (F : Ex) : Ex := fun δ => (F (hide δ)).bind fun x => some (x.1, unh δ x.2)
theorem hide_get : ∀ {δ : List Sl} {i : Nat}, (hide δ)[i]? = (δ[i]?).map hideS
  | [], _ => rfl
  | _ :: _, 0 => rfl
  | _ :: r, i + 1 => hide_get (δ := r) (i := i)
theorem hide_len : ∀ {δ : List Sl}, (hide δ).length = δ.length
  | [] => rfl
  | _ :: r => congrArg (· + 1) (hide_len (δ := r))
theorem unh_len : ∀ {δ δ1 : List Sl}, (unh δ δ1).length = δ1.length
  | [], _ => rfl
  | _ :: _, [] => rfl
  | _ :: r, _ :: y => congrArg (· + 1) (unh_len (δ := r) (δ1 := y))
theorem unh_get : ∀ {δ δ1 : List Sl} {i : Nat} {s : Sl}, (unh δ δ1)[i]? = some s → (∃ t ds, s = .bx t ds ∧ t ≠ .l ∧ δ[i]? = some s) ∨ (δ1[i]? = some s)
  | [], _, _, _, h => .inr h
  | _ :: _, [], _, _, h => .inr h
  | a :: _, x :: _, 0, s, h => by
    have h : some (unS a x) = some s := h
    cases h
    unfold unS
    split
    · exact .inl ⟨_, _, rfl, (fun z => nomatch z), rfl⟩
    · exact .inl ⟨_, _, rfl, (fun z => nomatch z), rfl⟩
    · exact .inr rfl
  | _ :: r, _ :: y, i + 1, _, h => unh_get (δ := r) (δ1 := y) (i := i) h
theorem hide_bx {δ : List Sl} {i : Nat} {t : Bt} {ds : List PyData} (h : (hide δ)[i]? = some (.bx t ds)) : δ[i]? = some (.bx t ds) ∧ t = .l := by
  rw [hide_get] at h
  cases e : δ[i]? with
  | none => rw [e] at h; cases h
  | some s =>
    rw [e] at h
    have h : some (hideS s) = some (.bx t ds) := h
    cases s with
    | no => cases h
    | im d => cases h
    | fz d => cases h
    | raw v => cases h
    | mo v => cases h
    | bx u es =>
      cases u with
      | l => cases h; exact ⟨rfl, rfl⟩
      | o fs => cases h
      | d ks => cases h
theorem hide_go {K : PySem.W.Frag} {F : Ex} {σ : SS} {H : Hp} {Q : VK} (h : tD K (dHide F) σ H Q) : tD K F σ H Q := by
  obtain ⟨G, δ, r, δ', R, e, q⟩ := h
  obtain ⟨⟨r1, δ1⟩, e1, e⟩ := bind_some_of e
  cases e
  have own0 : ∀ {a : Addr}, Own σ (hide δ) a → Own σ δ a := by
    rintro a ⟨i, t, ds, h1, h2⟩
    exact ⟨i, t, ds, h1, (hide_bx h2).1⟩
  have R0 : Rel K G H σ (hide δ) := by
    refine ⟨R.sub, by rw [hide_len]; exact R.len, fun i s hs => ?_, fun i j p t u ds es h1 h2 h3 h4 => R.inj i j p t u ds es h1 (hide_bx h2).1 h3 (hide_bx h4).1, R.inv⟩
    rw [hide_get] at hs
    cases e : δ[i]? with
    | none => rw [e] at hs; cases hs
    | some s0 =>
      rw [e] at hs
      have hs : some (hideS s0) = some s := hs
      have := R.slot i s0 e
      cases s0 with
      | no => cases hs; trivial
      | im d => cases hs; exact this
      | fz d => cases hs; exact this
      | raw v => cases hs; exact this
      | mo v => cases hs; exact this
      | bx u es =>
        cases u with
        | l => cases hs; exact this
        | o fs => cases hs; trivial
        | d ks => cases hs; trivial
  refine ⟨G, _, r1, δ1, R0, e1, fun v G' H' R' st rv => ?_⟩
  have obj : ∀ {i : Nat} {fs : Bt} {ds : List PyData}, fs ≠ .l → δ[i]? = some (.bx fs ds) → ∃ p ws, σ[i]? = some (some (.ref p)) ∧ Bx H' p fs ws ∧ G' p = none ∧ RpAll K G' ws ds ∧ ¬ Own σ δ1 p ∧ H p ≠ none := fun {i fs ds} hfs hi => by
    obtain ⟨p, ws, k1, k2, k3, k4⟩ := R.bx hi
    have no : ¬ Own σ (hide δ) p := by
      rintro ⟨j, t, es, h1, h2⟩
      obtain ⟨h2, rfl⟩ := hide_bx h2
      have := R.inj i j p _ _ _ _ k1 hi h1 h2
      subst this
      rw [hi] at h2
      cases h2
      exact hfs rfl
    have nn := k2.not
    obtain ⟨o, g1, nv, kb⟩ := k2.at
    obtain ⟨z1, z2⟩ := st.keep p o g1 no
    refine ⟨p, ws, k1, kb _ (z1 fun z => nv z.1), ?_, k4.same st.same, z2, nn⟩
    cases hg : G' p with
    | none => rfl
    | some u =>
      rcases st.grow p u hg with z | z | z
      · rw [k3] at z; cases z
      · rw [g1] at z; cases z
      · exact absurd z no
  have own1 : ∀ {a : Addr}, Own σ (unh δ δ1) a → Own σ δ1 a ∨ (Own σ δ a ∧ H a ≠ none ∧ ¬ Own σ δ1 a) := by
    rintro a ⟨i, t, ds, h1, h2⟩
    rcases unh_get h2 with ⟨fs, es, z1, zn, z2⟩ | z
    · cases z1
      obtain ⟨p, ws, k1, _, _, _, k5, k6⟩ := obj zn z2
      rw [h1] at k1; cases k1
      exact .inr ⟨⟨i, _, _, h1, z2⟩, k6, k5⟩
    · exact .inl ⟨i, t, ds, h1, z⟩
  have Rn : Rel K G' H' σ (unh δ δ1) := by
    refine ⟨R'.sub, by rw [unh_len]; exact R'.len, fun i s hs => ?_, fun i j p t u ds es h1 h2 h3 h4 => ?_, R'.inv⟩
    · rcases unh_get hs with ⟨fs, es, z1, zn, z2⟩ | z
      · cases z1
        obtain ⟨p, ws, k1, k2, k3, k4, _⟩ := obj zn z2
        exact ⟨p, ws, by rw [k1]; rfl, k2, k3, k4⟩
      · exact R'.slot i s z
    · rcases unh_get h2 with ⟨fs, es1, z1, zn, z2⟩ | z
      · cases z1
        obtain ⟨p1, _, k1, _, _, _, k5, _⟩ := obj zn z2
        rw [h1] at k1; cases k1
        rcases unh_get h4 with ⟨fs2, es2, y1, yn, y2⟩ | y
        · cases y1
          exact R.inj i j p _ _ _ _ h1 z2 h3 y2
        · exact absurd ⟨j, u, es, h3, y⟩ k5
      · rcases unh_get h4 with ⟨fs2, es2, y1, yn, y2⟩ | y
        · cases y1
          obtain ⟨p1, _, k1, _, _, _, k5, _⟩ := obj yn y2
          rw [h3] at k1; cases k1
          exact absurd ⟨i, t, ds, h1, z⟩ k5
        · exact R'.inj i j p t u ds es h1 z h3 y
  refine q v G' H' Rn ⟨fun a o ha na => ?_, st.dom, st.same, fun a o ha => ?_⟩ ?_
  · obtain ⟨z1, z2⟩ := st.keep a o ha fun z => na (own0 z)
    refine ⟨z1, fun z => ?_⟩
    rcases own1 z with z | z
    · exact z2 z
    · exact na z.1
  · rcases st.grow a o ha with z | z | z
    · exact .inl z
    · exact .inr (.inl z)
    · exact .inr (.inr (own0 z))
  · dsimp only
    cases r1 with
    | no => exact rv
    | im d => exact rv
    | fz d => exact rv
    | raw d => exact rv
    | mo d => exact rv
    | bx t ds =>
      obtain ⟨p, ws, h1, h2, h3, h4, h5, h6⟩ := rv
      refine ⟨p, ws, h1, h2, h3, fun z => ?_, h5, h6⟩
      rcases own1 z with z | z
      · exact h4 z
      · exact z.2.1 h5
theorem de_hide {X : Cx} {e : Expr} {F : Ex} (h : DE X e F) : DE X e (dHide F) := PE.by h fun _ _ _ g => hide_go g
/-- a class body's statement -/
def cbody (s : Stmt) (i : Nat) : Stmt := match s with
  | .ClassDef _ _ _ body _ _ _ _ _ _ _ => body.getD i (.Pass ⟨0, 0, 0, 0⟩)
  | _ => .Pass ⟨0, 0, 0, 0⟩
omit [Memo] in
/-- the law that hands back True, where there is a class -/
theorem walkGC {l : PySem.W.OpenLaw} {n k : Nat} {q : Program} {loose : List Str} {XP : (Str → Option Value) → Heap → Prop} {YP : World → Heap → Prop} {d : DefRec} {K : Params → PySem.W.Frag} {x : Str} {f : Fn}
    (hn : l.most = some n) (hn2 : n ≤ sizeLine) (hdf : d.params.defaults = []) (hr : Room k callerA) (hY : ∀ (w : World) (h : Heap), YP w h → (K w.params).In h)
    (F : ∀ (w : World) (mg : Str → Option Value) (fa : Addr) (h : Heap), (K w.params).In h → h.Ns mainGlobals mg → mg d.name = some (.ref fa) → ∃ (C : Addr) (fd : FuncData), (∀ (s : Shared) (u : Value), BindsTo s fd ⟨[u], []⟩ [(x, u)]) ∧
        ∀ bs : Heap, (K w.params).In bs → bs.Ns mainGlobals mg → FnG l.prog w (K w.params) mg bs CX0 k fa fd [x] (@spD (plainAt C) (K w.params) 1 f))
    (hf : ∀ ns : List Int, ns.length ≤ n → ∃ as', f [.fz (ns.map PyData.int)] = some (.im (.bool true), as')) :
    PySem.W.WalkO q loose XP YP l.row.toRowW d [] (fun f vs => PySem.call f vs) := by
  refine Att.attach_call hn hdf fun w s0 s1 mg mb fa o pm cd doc a vs ns G Y ho hd hcd hmg hobj hints hlen hg => ?_
  have KX := hY w _ Y
  obtain ⟨C, fd, hb, hF⟩ := F w mg fa _ KX G.T.g hmg
  refine law_endG KX G.T.g G.T.b G.T.builtins G.T.nolimit hg hobj hints (Nat.le_trans hlen hn2) hr hF hb (fun H hO hS => ?_) fun _ _ _ z => z
  obtain ⟨as', e⟩ := hf ns hlen
  have RR : @Rel (plainAt C) (K w.params) H H ([V.ref a].map some) [.fz (ns.map PyData.int)] := by
    refine @Rel.mk (plainAt C) _ _ _ _ _ (Same.refl _) rfl (fun i s h => ?_) (fun i j p tt uu ds es h1 h2 => ?_) trivial
    · cases i with
      | zero =>
        cases h
        exact ⟨a, _, rfl, hS, RpAll.ofInts ns⟩
      | succ i => cases h
    · cases i with
      | zero => cases h2
      | succ i => cases h2
  refine ⟨rfl, H, [.fz (ns.map PyData.int)], _, as', RR, e, fun v G' H' R st rv => ?_⟩
  cases rv
  rfl
end CK
namespace CK
open PySem PySem.Spec PyProof.Rows L2
variable [Memo]
section
variable {prog : Program} {w : World} {A : Around} {E : Value → Shared → Prop} {s : Shared} {K : PySem.W.Frag} {x C f : Addr} {ox : Obj} {od : Option Obj}
omit [Memo] in
theorem lenK {Q : Value → Shared → Prop} (X : K.In s.heap) (I : PySem.W.InstAt s.heap x ox C od) (hs : PySem.W.findIn K (.ref C) "__len__" = some (some (.ref f))) (hf : PySem.W.isFn K (.ref f) = true)
    (h : wpAny (model prog w) A.in1 (call (.ref f) [.ref x]) (PySem.W.LenBack Q) E s) : wpAny (model prog w) A (call (.builtin "len") [.ref x]) Q E s := by
  refine Calls.call_function_entry kind_len plain_len entry_len (args_len1 _) ?_
  unfold Builtin.«len»
  refine wpAny_bind (m := oneArg "len" _) (wpAny_pure ?_)
  refine wpAny_bind (m := callSpecial? (.ref x) (Str.ofString "__len__")) (PySem.W.special_fn X I hs (beq_iff_eq.mp hf) (wpAny_mono h (fun r s' hr => ?_) fun _ _ y => y))
  cases r <;> first | exact hr.elim | skip
  rename_i n u
  obtain ⟨⟨h0, h1⟩, hq⟩ := hr
  refine wpAny_bind (wpAny_holding (wpAny_pure ?_))
  refine wpAny_bind (wpAny_letGo ?_)
  show wpAny _ _ (if n < 0 then _ else _) _ _ _
  rw [if_neg (by omega)]
  show wpAny _ _ (if n ≥ 2 ^ 63 then _ else _) _ _ _
  rw [if_neg (by omega)]
  exact wpAny_bind (wpAny_mkInt (wpAny_pure ⟨_, rfl, hq⟩))
end
def rLenO (C : Addr) (sp : Sp) (E : XK) : List V → Hp → VK → Prop := fun xs H Q => ∃ a dx fs, xs = [.ref a] ∧ H a = some (.ins C dx fs) ∧ sp [.ref a] H (fun v H' => ∃ n : Int, v = .int n ∧ 0 ≤ n ∧ n < 2 ^ 63 ∧ Q (.int n) H') E
section
variable {X : Cx} {CT : CXT} {k : Nat} {f C : Addr} {fd : FuncData} {ps : List Str} {sp : Sp} {E : XK}
theorem call_lenO (hgd : X.A.guards = some []) (hm : Meth X.K C "__len__" f) (F : FnG X.prog X.w X.K X.mg X.base CT k f fd ps sp) (hr : Room (k + 1) X.A) (hb : Binds X.K fd ps []) (hx : Passes CT X.nox E) : CallR X (.builtin "len") (rLenO C sp E) := by
  intro pins s σ H xs us Q I r h
  obtain ⟨a, dx, fs, rfl, ea, h⟩ := h
  obtain ⟨u, rfl, rx⟩ := vals1 r
  obtain rfl : u = .ref a := rx
  obtain ⟨mA, O, _⟩ := ins_get I.hok ea
  obtain ⟨od, J, _⟩ := O.look
  refine lenK I.kIn J hm.at_ hm.fn ?_
  have hl : ([Value.ref a] ++ []).length = ps.length := by
    rw [← F.arity _ _ _ _ h]; rfl
  refine wpAny_call (codeAny_mono (F.go X.A.in1 X.stack s H ⟨[.ref a], []⟩ [.ref a] [.ref a] _ E (guards_in1 hgd) hr.in1 I.env0.in1 (hb _ [.ref a] I.kIn hl) (.cons rfl .nil) h) fun r s' hq => ?_)
  cases r with
  | error er => exact False.elim (hx pins σ H s er s' (I.wish _) hq)
  | ok fl =>
    cases fl with
    | ret u =>
      obtain ⟨v, H', I3, rv, q3⟩ := I.after hq
      obtain ⟨n, rfl, n0, n1, q3⟩ := q3
      obtain ⟨t, rfl⟩ := rv
      exact ⟨⟨n0, n1⟩, .int n, H', I3.tok _, ⟨_, rfl⟩, q3⟩
    | next => exact False.elim hq
    | brk => exact False.elim hq
    | cont => exact False.elim hq
end
def dLenO (fn : Fn) (i : Nat) : Ex := fun δ => (dMeth "__len__" fn i [] δ).bind fun y => match y.1 with
  | .im (.int n) => if 0 ≤ n ∧ n < 2 ^ 63 then some (.im (.int n), y.2) else none
  | _ => none
section
variable {X : Cx} {k : Nat} {f : Addr} {fd : FuncData} {ps : List Str} {fn : Fn} {x : Str} {px p pos : Pos}
theorem de_lenO [Still ‹Memo›] (i : Nat) (hgd : X.A.guards = some []) (hm : Meth X.K Memo.C "__len__" f) (F : FnG X.prog X.w X.K X.mg X.base CX0 k f fd ps (spD X.K 1 fn)) (hr : Room (k + 1) X.A) (hb : Binds X.K fd ps []) (hg : Gl X "len") (hml : X.mg "len" = none)
    (hN : X.N[i]? = some x := by rfl) (hv : Vis X.env.scope x := by first | exact Or.inl rfl | exact Or.inr (Or.inl rfl) | exact Or.inr (Or.inr rfl)) (hd : (x == ("__debug__" : Str)) = false := by decide) (hcd : (x == ("__classdict__" : Str)) = false := by decide)
    (hs : starEach [.Name x px] X.env = (false, eval (.Name x px) X.env) :: starEach [] X.env := by rfl) (hpl : (backTo pos (starEach [] X.env)).any (·.1) = false := by rfl) :
    DE X (.Call (.Name "len" p) [.Name x px] [] pos) (dLenO fn i) :=
  PE.by (pe_callB (call_lenO hgd hm F hr hb pass0) hg hml (by decide +kernel) (pa_cons (pe_var hN hv hd hcd) pa_nil hs) (by decide) (by decide) hs hpl) fun σ H Q h => by
    obtain ⟨G, δ, r, δ', R, e, q⟩ := h
    obtain ⟨⟨z, δ1⟩, e1, e⟩ := bind_some_of e
    obtain ⟨n, rfl, n0, n1, rfl, rfl⟩ : ∃ n : Int, z = .im (.int n) ∧ 0 ≤ n ∧ n < 2 ^ 63 ∧ r = .im (.int n) ∧ δ1 = δ' := by
      cases z with
      | im d =>
        cases d with
        | int n =>
          obtain ⟨hc, e⟩ := of_ite e
          cases e
          exact ⟨n, rfl, hc.1, hc.2, rfl, rfl⟩
        | _ => cases e
      | _ => cases e
    obtain ⟨v, k1, a, dx, fs, z1, z2, z3, G2, δ2, ps2, δ3, R2, e2, q2⟩ := meth_go (X := X) (E := E0) (n := 1) (as := []) (σ := σ) (i := i) (m := "__len__") (fn := fn) (Q := fun v H' => ∃ n : Int, v = .int n ∧ 0 ≤ n ∧ n < 2 ^ 63 ∧ Q (.int n) H') (by simp [agI]) rfl
      ⟨G, δ, _, _, R, e1, fun v G1 H1 R1 st rv => ⟨n, (by have rv : Rp X.K G1 v (.int n) := rv; cases rv; rfl), n0, n1, q (.int n) G1 H1 R1 st (.int n)⟩⟩
    cases e2
    have q3 := q2 [] G2 H R2 Stp.refl trivial
    subst z1
    exact ⟨_, k1, a, dx, fs, rfl, z2, q3⟩
end
end CK
namespace CK
open PySem PySem.Spec PyProof.Rows L2
variable [Memo]
def owQ : Sl → Option (List PyData)
  | .bx .l ds => some ds
  | _ => none
def sForApp (i : Nat) (F1 F2 : Ex) : Sm := fun δ => (F1 δ).bind fun x => (owQ x.1).bind fun ds1 => (F2 x.2).bind fun y => (owQ y.1).bind fun ds2 =>
  if ds1.length < LINE ∧ ds2.length < LINE ∧ i < y.2.length then some (.nx, y.2.set i (.bx .l (ds2 ++ [.none]))) else none
end CK
namespace CK
open PySem PySem.Spec PyProof.Rows L2
variable [Memo]
def keyOf : Sl → Option Key
  | .im (.int i) => some (.inl i)
  | .im (.str s) => some (.inr s)
  | _ => none
def dicS : Option Sl → Option (List Key × List PyData)
  | some (.bx (.d ks) ds) => some (ks, ds)
  | _ => none
def getQ (k : Key) : List Key → List PyData → Option PyData
  | g :: ks, d :: ds => if g = k then some d else getQ k ks ds
  | _, _ => none
def putQ (k : Key) (d : PyData) : List Key → List PyData → Option (List Key × List PyData)
  | [], [] => some ([k], [d])
  | g :: ks, x :: ds => if g = k then some (g :: ks, d :: ds) else (putQ k d ks ds).bind fun r => some (g :: r.1, x :: r.2)
  | _, _ => none
/-- {} -/
def dDicN : Ex := fun δ => some (.bx (.d []) [], δ)
/-- {k: v} -/
def dDic1 (Fk F : Ex) : Ex := fun δ => (Fk δ).bind fun x => (keyOf x.1).bind fun k => (F x.2).bind fun y => y.1.sh.bind fun d => some (.bx (.d [k]) [d], y.2)
/-- d[k] -/
def dDGet (i : Nat) (Fk : Ex) : Ex := fun δ => (dicS δ[i]?).bind fun _ => (Fk δ).bind fun x => (keyOf x.1).bind fun k => (dicS x.2[i]?).bind fun o => (getQ k o.1 o.2).bind fun d => some (.im d, x.2)
/-- k in d, k not in d -/
def dDIn (n : Bool) (Fk : Ex) (i : Nat) : Ex := fun δ => (Fk δ).bind fun x => (keyOf x.1).bind fun k => (dicS x.2[i]?).bind fun o => some (.im (.bool (n != (getQ k o.1 o.2).isSome)), x.2)
/-- d[k] = v -/
def sDPutD (i : Nat) (Fk F : Ex) : Sm := fun δ => (F δ).bind fun x => x.1.sh.bind fun d => (dicS x.2[i]?).bind fun _ => (Fk x.2).bind fun y => (keyOf y.1).bind fun k => (dicS y.2[i]?).bind fun o =>
  if o.1.Nodup ∧ o.1.length < LINE ∧ o.1.length = o.2.length then (putQ k d o.1 o.2).bind fun r => some (.nx, y.2.set i (.bx (.d r.1) r.2)) else none
def keysI : List Key → Option (List Int)
  | [] => some []
  | .inl i :: ks => (keysI ks).bind fun r => some (i :: r)
  | .inr _ :: _ => none
/-- sorted(d) -/
def dSortK (i : Nat) : Ex := fun δ => (dicS δ[i]?).bind fun o => (keysI o.1).bind fun ns => if ns.length < 64 ∧ o.1.length = o.2.length then some (.bx .l ((sortI ns).map PyData.int), δ) else none
end CK
namespace CK
open PySem PySem.Spec PyProof.Rows L2
variable [Memo]
abbrev dicP (ks : List Key) (ds : List PyData) : PyData := .dict ((ks.map keyP).zip ds)
/-- a name that holds a dict of its own, from now on shared -/
def dDFrz (i : Nat) : Ex := fun δ => (dicS δ[i]?).bind fun o => some (.im (dicP o.1 o.2), δ.set i (.im (dicP o.1 o.2)))
/-- look-up in a dict that is shared -/
def lkD : List (PyData × PyData) → Int → Option PyData
  | [], _ => none
  | (.int j, d) :: r, i => if j = i then some d else lkD r i
  | _ :: r, i => lkD r i
def ixkD : PyData → PyData → Option Sl
  | .dict kvs, .int i => (lkD kvs i).bind fun d => some (.im d)
  | d, e => ixD d e
/-- two names at once, by the tuple (a name may be a cell) -/
theorem ds_parC {X : Cx} {P : List Nat} {i j : Nat} {x y : Str} {a b : Expr} {F1 F2 : Ex} {px py pt pos : Pos} {kt k2 pt2} (hc : X.calm = true) (hN : X.N.Nodup) (hi : X.N[i]? = some x) (hj : X.N[j]? = some y)
    (hx : Loc X.env.scope x) (hy : Loc X.env.scope y) (ha : DEs X [a, b] [F1, F2]) (fx : X.fn x = true ∨ X.env.scope.names.lookup x = some .local) (fy : X.fn y = true ∨ X.env.scope.names.lookup y = some .local)
    (hpi : P.contains i = false := by rfl) (hpj : P.contains j = false := by rfl)
    (hs : swapsWithSole [.Tuple [.Name x px, .Name y py] kt pt] (.Tuple [a, b] k2 pt2) pos.line X.env = pure false := by rfl) (hsw : swappedStores [.Tuple [.Name x px, .Name y py] kt pt] (.Tuple [a, b] k2 pt2) X.env = pure none := by rfl)
    (h1 : (assignEach [.Tuple [.Name x px, .Name y py] kt pt] X.env).map (·.2) = [assign (.Tuple [.Name x px, .Name y py] kt pt) X.env] := by rfl) :
    DS X P (.Assign [.Tuple [.Name x px, .Name y py] kt pt] (.Tuple [a, b] k2 pt2) pos) (sPar i j F1 F2) :=
  PS.by (ps_asg (pe_tup ha) (pg_tup (n := 2) hc (pgs_cons (pg_name hN hi hx fx) (pgs_cons (pg_name hN hj hy fy) pgs_nil))) hs hsw h1) fun D σ H hh => by
  obtain ⟨G, δ, fl, δ', R, e, q⟩ := hh
  obtain ⟨⟨r1, δ1⟩, e1, e⟩ := bind_some_of e
  obtain ⟨⟨r2, δ2⟩, e2, e⟩ := bind_some_of e
  cases e
  refine ⟨G, δ, [r1, r2], δ2, R, by simp only [esE, e1, e2, Option.bind_some], fun vs G1 H1 R1 st1 ra => ?_⟩
  match vs, ra with
  | [v, w], ⟨rv1, Hm, m1, m2, rv2, _, _, _, _⟩ =>
    refine ⟨by show 2 ≤ sizeLine; rw [sizeLine_eq]; decide, fun t ht => ?_⟩
    have R2 : Rel X.K G1 (upd H1 t (.tup [v, w])) σ δ2 := R1.new ht
    have st2 : Stp σ δ2 G1 H1 σ δ2 G1 (upd H1 t (.tup [v, w])) := Stp.new ht
    have stA := st1.trans st2
    replace rv1 := rv1.step st2
    replace rv2 := rv2.step st2
    have A := R2.set (i := i) rv1.slot.1 fun p t ds e1 e2 => (rv1.slot.2 p t ds e1 e2).1
    have B := A.set (i := j) rv2.slot.1 fun p t ds e1 e2 z => by
      rcases own_set R2.len z with z | ⟨z, u', es, e3⟩
      · exact (rv2.slot.2 p t ds e1 e2).1 z
      · exact m2 p u' es e3 z (rv2.slot.2 p t ds e1 e2).2
    refine ⟨t, [v, w], rfl, SqT.of upd_same, rfl, v, _, rfl, w, _, rfl, rfl, ?_⟩
    exact q _ G1 _ B (Stp.setR A (Stp.setR R2 stA fun p t ds e1 e2 => (rv1.slot.2 p t ds e1 e2).2) fun p t ds e1 e2 => m1 _ (rv2.slot.2 p t ds e1 e2).2) ((Pin.set hpi).trans (Pin.set hpj))
/-- a list taken apart -/
def tgTL (t : List PyData → List Sl → Option (List Sl)) : Tg := fun d δ => match d with
  | .list ds => t ds δ
  | _ => none
def ltLD : PyData → PyData → Option Bool
  | .list ds, .list es => (intsD ds).bind fun ns => (intsD es).bind fun ms => some (HT.lexLt ns ms)
  | _, _ => none
end CK
namespace CK
open PySem PySem.Spec PyProof.Rows L2
variable [Memo]
def CasesR (X : Cx) : List MatchCase → List (Option Str × TS) → Prop
  | [], [] => True
  | ⟨.MatchValue (.Constant (.str b) _ _) _, none, body⟩ :: cs, (some c, t) :: r => b = c ∧ PSs X body t ∧ CasesR X cs r
  | ⟨.MatchAs none none _, none, body⟩ :: cs, (none, t) :: r => PSs X body t ∧ CasesR X cs r
  | _, _ => False
/-- the suites of the cases -/
inductive DCs (X : Cx) (P : List Nat) : List MatchCase → List (Option Str × Sm) → Prop
  | nil : DCs X P [] []
  | val {b j p p' body S cs r} : DSs X P body S → DCs X P cs r → DCs X P (⟨.MatchValue (.Constant (.str b) j p) p', none, body⟩ :: cs) ((some b, S) :: r)
  | any {p body S cs r} : DSs X P body S → DCs X P cs r → DCs X P (⟨.MatchAs none none p, none, body⟩ :: cs) ((none, S) :: r)
theorem DCs.to {X : Cx} {P : List Nat} : ∀ {cs : List MatchCase} {r : List (Option Str × Sm)}, DCs X P cs r → CasesR X cs (r.map fun x => (x.1, tS X.K P x.2))
  | _, _, .nil => trivial
  | _, _, .val h t => ⟨rfl, h, t.to⟩
  | _, _, .any h t => ⟨h, t.to⟩
end CK
namespace CK
open PySem PySem.Spec PyProof.Rows L2
variable [Memo]
section
variable {K : PySem.W.Frag} {G G' H H' : Hp} {σ : SS} {δ δ' : List Sl}
theorem Rel.grow (R : Rel K G H σ δ) : Rel K G H (σ ++ [none]) (δ ++ [.no]) := by
  have hl := R.len
  have gs : ∀ {i : Nat} {s : Sl}, (δ ++ [Sl.no])[i]? = some s → (i < δ.length ∧ δ[i]? = some s) ∨ (i = δ.length ∧ s = .no) := fun {i s} e => by
    rcases Nat.lt_trichotomy i δ.length with h | h | h
    · rw [List.getElem?_append_left h] at e; exact .inl ⟨h, e⟩
    · subst h
      rw [List.getElem?_append_right (Nat.le_refl _), Nat.sub_self] at e
      cases e; exact .inr ⟨rfl, rfl⟩
    · rw [List.getElem?_eq_none (by simp; omega)] at e; cases e
  have gl : ∀ {i : Nat}, i < δ.length → (σ ++ [none])[i]? = σ[i]? := fun {i} h => List.getElem?_append_left (by omega)
  refine ⟨R.sub, by simp [hl], fun i s e => ?_, fun i j p t u ds es h1 h2 h3 h4 => ?_, R.inv⟩
  · rcases gs e with ⟨h, e⟩ | ⟨rfl, rfl⟩
    · rw [gl h]; exact R.slot i s e
    · trivial
  · rcases gs h2 with ⟨g2, h2⟩ | ⟨_, z⟩
    · rcases gs h4 with ⟨g4, h4⟩ | ⟨_, z⟩
      · rw [gl g2] at h1
        rw [gl g4] at h3
        exact R.inj i j p t u ds es h1 h2 h3 h4
      · cases z
    · cases z
theorem Rel.push (R : Rel K G H σ δ) {v : V} {s : Sl} (h : SlotOk K G H (some v) s) (hn : ∀ p t ds, s = .bx t ds → v = .ref p → ¬ Own σ δ p) : Rel K G H (σ ++ [some v]) (δ ++ [s]) := by
  have R1 := R.grow.set (i := δ.length) (v := v) (s := s) h fun p t ds e1 e2 ⟨j, u, es, o1, o2⟩ => by
    rcases Nat.lt_trichotomy j δ.length with g | g | g
    · rw [List.getElem?_append_left (by rw [R.len]; exact g)] at o1
      rw [List.getElem?_append_left g] at o2
      exact hn p t ds e1 e2 ⟨j, u, es, o1, o2⟩
    · subst g
      rw [List.getElem?_append_right (Nat.le_refl _), Nat.sub_self] at o2
      cases o2
    · rw [List.getElem?_eq_none (by simp; omega)] at o2; cases o2
  rw [List.set_append_right _ _ (Nat.le_refl _), Nat.sub_self, List.set_append_right _ _ (by rw [R.len]; exact Nat.le_refl _), R.len, Nat.sub_self] at R1
  exact R1
theorem Rel.pop {o : SS} {l : List Sl} (hl : l.length = (σ ++ o).length) (R : Rel K G H (σ ++ o) l) : Rel K G H σ (l.take σ.length) := by
  have gs : ∀ {i : Nat} {s : Sl}, (l.take σ.length)[i]? = some s → i < σ.length ∧ l[i]? = some s := fun {i s} e => by
    have h : i < σ.length := by
      have := (List.getElem?_eq_some_iff.mp e).1
      rw [List.length_take] at this; omega
    rw [List.getElem?_take_of_lt h] at e
    exact ⟨h, e⟩
  have gl : ∀ {i : Nat}, i < σ.length → (σ ++ o)[i]? = σ[i]? := fun {i} h => List.getElem?_append_left h
  refine ⟨R.sub, by rw [List.length_take, hl, List.length_append]; omega, fun i s e => ?_, fun i j p t u ds es h1 h2 h3 h4 => ?_, R.inv⟩
  · obtain ⟨g, e⟩ := gs e
    have := R.slot i s e
    rwa [gl g] at this
  · obtain ⟨g2, h2⟩ := gs h2
    obtain ⟨g4, h4⟩ := gs h4
    exact R.inj i j p t u ds es (by rw [gl g2]; exact h1) h2 (by rw [gl g4]; exact h3) h4
/-- what is owned behind a push -/
theorem own_push (hl : σ.length = δ.length) {o : Option V} {s : Sl} {a : Addr} (h : Own (σ ++ [o]) (δ ++ [s]) a) : Own σ δ a ∨ (o = some (.ref a) ∧ ∃ t ds, s = .bx t ds) := by
  obtain ⟨j, t, ds, h1, h2⟩ := h
  rcases Nat.lt_trichotomy j δ.length with g | g | g
  · rw [List.getElem?_append_left (by omega)] at h1
    rw [List.getElem?_append_left g] at h2
    exact .inl ⟨j, t, ds, h1, h2⟩
  · subst g
    rw [List.getElem?_append_right (Nat.le_refl _), Nat.sub_self] at h2
    rw [List.getElem?_append_right (by omega), show δ.length - σ.length = 0 by omega] at h1
    cases h1; cases h2
    exact .inr ⟨rfl, t, ds, rfl⟩
  · rw [List.getElem?_eq_none (by simp; omega)] at h2; cases h2
theorem own_push0 (hl : σ.length = δ.length) {o : Option V} {s : Sl} {a : Addr} (h : Own σ δ a) : Own (σ ++ [o]) (δ ++ [s]) a := by
  obtain ⟨j, t, ds, h1, h2⟩ := h
  have g : j < δ.length := (List.getElem?_eq_some_iff.mp h2).1
  exact ⟨j, t, ds, by rw [List.getElem?_append_left (by omega)]; exact h1, by rw [List.getElem?_append_left g]; exact h2⟩
theorem Stp.push {σ0 : SS} {δ0 : List Sl} {G0 H0 : Hp} (hl : σ.length = δ.length) (st : Stp σ0 δ0 G0 H0 σ δ G H) {o : Option V} {s : Sl} (hf : ∀ p t ds, s = .bx t ds → o = some (.ref p) → H0 p = none) : Stp σ0 δ0 G0 H0 (σ ++ [o]) (δ ++ [s]) G H :=
  ⟨fun a u e n => ⟨(st.keep a u e n).1, fun z => by
    rcases own_push hl z with z | ⟨z, t, ds, e2⟩
    · exact (st.keep a u e n).2 z
    · rw [hf a t ds e2 z] at e; cases e⟩, st.dom, st.same, st.grow⟩
theorem Stp.pop {σ0 : SS} {δ0 : List Sl} {G0 H0 : Hp} {o : SS} {l : List Sl} (st : Stp σ0 δ0 G0 H0 (σ ++ o) l G H) : Stp σ0 δ0 G0 H0 σ (l.take σ.length) G H :=
  ⟨fun a u e n => ⟨(st.keep a u e n).1, fun ⟨j, t, ds, h1, h2⟩ => by
    have g : j < σ.length := (List.getElem?_eq_some_iff.mp h1).1
    rw [List.getElem?_take_of_lt g] at h2
    exact (st.keep a u e n).2 ⟨j, t, ds, by rw [List.getElem?_append_left g]; exact h1, h2⟩⟩, st.dom, st.same, st.grow⟩
/-- a new thing of its own, put aside -/
theorem RV.aside {Hs : Hp} {t : Bt} {ds : List PyData} {v : V} {δ1 : List Sl} {G1 H1 : Hp} (h : RV K G H Hs σ δ v (.bx t ds)) (st : Stp σ δ G H σ δ1 G1 H1) : RV K G1 H1 Hs σ δ1 v (.bx t ds) := by
  obtain ⟨p, ws, rfl, b, g, n, f, r⟩ := h
  obtain ⟨o, e, nv, kb⟩ := b.at
  obtain ⟨k1, k2⟩ := st.keep p o e n
  refine ⟨p, ws, rfl, kb _ (k1 fun z => nv z.1), ?_, k2, f, r.same st.same⟩
  cases hx : G1 p with
  | none => rfl
  | some u =>
    rcases st.grow p u hx with z | z | z
    · rw [g] at z; cases z
    · rw [e] at z; cases z
    · exact absurd z n
end
end CK
namespace CK
open PySem PySem.Spec PyProof.Rows L2
variable [Memo]
section
variable {K : PySem.W.Frag} {G G' H H' : Hp} {σ : SS} {δ δ' : List Sl}
theorem AW.push : ∀ {vs : List V} {as : List Ag} {ps : List (Option Sl)} {o : SS}, AW K G σ vs as ps → AW K G (σ ++ o) vs as ps
  | [], [], [], _, _ => trivial
  | _ :: _, .io _ :: _, none :: _, _, h => ⟨by
    have g := (List.getElem?_eq_some_iff.mp h.1).1
    rw [List.getElem?_append_left g]; exact h.1, AW.push h.2⟩
  | _ :: _, .ex _ :: _, some _ :: _, _, h => ⟨h.1, AW.push h.2⟩
theorem AW.snoc {v : V} {i : Nat} (hv : σ[i]? = some (some v)) : ∀ {vs : List V} {as : List Ag} {ps : List (Option Sl)}, AW K G σ vs as ps → AW K G σ (vs ++ [v]) (as ++ [.io i]) (ps ++ [none])
  | [], [], [], _ => ⟨hv, trivial⟩
  | _ :: _, .io _ :: _, none :: _, h => ⟨h.1, AW.snoc hv h.2⟩
  | _ :: _, .ex _ :: _, some _ :: _, h => ⟨h.1, AW.snoc hv h.2⟩
end
end CK
namespace CK
open PySem PySem.Spec PyProof.Rows L2
variable [Memo]
/-- {} , shared from the start -/
def dDicE : Ex := fun δ => some (.im (.dict []), δ)
def clsE : PyData → Option String
  | .dict _ => some "dict"
  | d => clsD d
def isiE (T : String) (d : PyData) : Option Sl := (clsE d).bind fun t => bD (kinD t T)
mutual
/-- no dict in it but empty ones -/
def empD : PyData → Bool
  | .list xs => empAll xs
  | .tuple xs => empAll xs
  | .dict (_ :: _) => false
  | _ => true
def empAll : List PyData → Bool
  | [] => true
  | x :: xs => empD x && empAll xs
end
def reprE (d : PyData) : Option Sl := if PyData.showable d = true ∧ empD d = true ∧ (PyData.shown d).length ≤ LINE ∧ PyData.depth d ≤ 64 then some (.im (.str (PyData.shown d))) else none
section
variable {K : PySem.W.Frag} {G H : Hp} {v : V} {d : PyData}
theorem Rp.dict {kvs : List (PyData × PyData)} (h : Rp K G v (.dict kvs)) : ∃ (a : Addr) (ks : List Key) (xs : List V) (ds : List PyData), v = .ref a ∧ G a = some (.dK (ks.zip xs)) ∧ RpAll K G xs ds ∧ kvs = (ks.map keyP).zip ds := by
  cases h with
  | dic h1 h2 => exact ⟨_, _, _, _, rfl, h1, h2, rfl⟩
theorem RT.dict {kvs : List (PyData × PyData)} (h : RT K G H v (.dict kvs)) : Rp K G v (.dict kvs) := by
  rcases h with r | ⟨p, ws, ds', _, z, _, _⟩
  · exact r
  · cases z
theorem RT.tyE {t : String} (s : Same G H) (h : RT K G H v d) (e : clsE d = some t) : TyX K H v (.type t) := by
  cases d with
  | dict kvs =>
    cases e
    obtain ⟨a, ks, xs, ds, rfl, h1, _⟩ := Rp.dict h.dict
    exact .base (.dK (s _ _ h1))
  | none => exact h.ty s e
  | bool b => exact h.ty s e
  | int i => exact h.ty s e
  | str i => exact h.ty s e
  | list ds => exact h.ty s e
  | tuple ds => exact h.ty s e
end
mutual
/-- read off a heap, with dicts that are empty -/
inductive Zk (h : Heap) : Value → PyData → List Addr → Prop
  | none : Zk h .none .none []
  | bool (b) : Zk h (.bool b) (.bool b) []
  | int (i t) : Zk h (.int i t) (.int i) []
  | str (x t) : Zk h (.str x t) (.str x) []
  | list {a o vs n xs as} : h.get? a = some o → o.cls = .type "list" → o.data = .seq vs n → ZkAll h vs.toList xs as → Zk h (.ref a) (.list xs) (a :: as)
  | tuple {a o vs n xs as} : h.get? a = some o → o.cls = .type "tuple" → o.data = .seq vs n → ZkAll h vs.toList xs as → Zk h (.ref a) (.tuple xs) as
  | dict {a o es n} : h.get? a = some o → o.cls = .type "dict" → o.data = .dict es n → es.toList = [] → (a == sysModules) = false → Zk h (.ref a) (.dict []) (a :: [] ++ [])
inductive ZkAll (h : Heap) : List Value → List PyData → List Addr → Prop
  | nil : ZkAll h [] [] []
  | cons {v vs d ds as bs} : Zk h v d as → ZkAll h vs ds bs → ZkAll h (v :: vs) (d :: ds) (as ++ bs)
end
section
variable {prog : Program} {w : World} {h : Heap}
mutual
theorem Zk.reads : ∀ {v : Value} {d : PyData} {as : List Addr}, Zk h v d as → Reads h v d as
  | _, _, _, .none => .none
  | _, _, _, .bool b => .bool b
  | _, _, _, .int i t => .int i t
  | _, _, _, .str x t => .str x t
  | _, _, _, .list h1 h2 h3 h4 => .list h1 h2 h3 (ZkAll.reads h4)
  | _, _, _, .tuple h1 h2 h3 h4 => .tuple h1 h2 h3 (ZkAll.reads h4)
  | _, _, _, .dict h1 h2 h3 h4 _ => .dict h1 h2 h3 (by rw [h4]; exact .nil) (by rw [h4]; exact .nil)
theorem ZkAll.reads : ∀ {v : List Value} {d : List PyData} {as : List Addr}, ZkAll h v d as → ReadsAll h v d as
  | _, _, _, .nil => .nil
  | _, _, _, .cons a b => .cons (Zk.reads a) (ZkAll.reads b)
end
end
end CK
namespace CK
open PySem PySem.Spec PyProof.Rows L2
variable [Memo]
/-- an error: its class's name, its field -/
structure Er where
  n : Str
  x : Option (Str × PyData)
/-- how an error lies: its class, its own dict -/
def ErAt (mg : Str → Option Value) (K : PySem.W.Frag) (G H : Hp) (e : Er) (cls : Value) (d : Option Addr) : Prop :=
  ∃ C, mg e.n = some (.ref C) ∧ cls = .ref C ∧ match e.x with
    | none => d = none
    | some (f, i) => ∃ dd v, d = some dd ∧ H dd = some (.xd [(f, v)]) ∧ Rp K G v i
/-- what a statement raises -/
abbrev Sx := List Sl → Option (Er × List Sl)
def tX (K : PySem.W.Frag) (mg : Str → Option Value) (W : WX) (P : List Nat) (S : Sx) : TS := fun _ σ H => ∃ (G : Hp) (δ : List Sl) (e : Er) (δ' : List Sl), Rel K G H σ δ ∧ S δ = some (e, δ') ∧
  ∀ (σ' : SS) (G' H' : Hp) (cls : Value) (d : Option Addr), Rel K G' H' σ' δ' → Stp σ δ G H σ' δ' G' H' → Pin P σ σ' → ErAt mg K G' H' e cls d → W cls d σ' H'
abbrev DXs (X : Cx) (W : WX) (P : List Nat) (s : List Stmt) (S : Sx) : Prop := PSs X s (tX X.K X.mg W P S)
end CK
namespace CK
open PySem PySem.Spec PyProof.Rows L2
/-- an exception that stands as it is -/
def EX (a : Addr) (oe : Obj) : HO := .ext fun h => h.get? a = some oe
/-- the ends of a suite, the exception's name gone -/
def endsT (i : Nat) (D : Ends) : Ends := { nx := fun σ H => D.nx (σ.set i none) H, rt := D.rt, bk := fun σ H => D.bk (σ.set i none) H, ct := fun σ H => D.ct (σ.set i none) H }
def erI (e : Er) : Inf := ⟨0, .str e.n, match e.x with
  | none => .none
  | some (f, d) => .tuple [.str f, d]⟩
/-- how a kept exception lies -/
def KeptE (K : PySem.W.Frag) (mg : Str → Option Value) (G H : Hp) (p : Addr) (x : Inf) : Prop :=
  ∃ (e : Er) (oe : Obj) (cls : Value) (d : Option Addr), x = erI e ∧ H p = some (EX p oe) ∧ L2N.Zn cls d oe ∧ (∃ vs, oe.data = .fields vs) ∧ ErAt mg K G H e cls d
theorem soft_xd {C : Addr} {fs : List (Str × V)} : ¬ Soft C (.xd fs) := by rintro (⟨_, z⟩ | ⟨_, _, z⟩ | ⟨_, z⟩) <;> cases z
def errMemo (C : Addr) (K : PySem.W.Frag) (mg : Str → Option Value) : Memo where
  C := C
  J := fun _ _ => True
  stab := fun _ _ _ => trivial
  W := fun _ => False
  M := KeptE K mg
  mst := by
    rintro G G' H H' p x ⟨e, oe, cls, d, h1, h2, h3, h4, C', h5, h6, h7⟩ sg gn st
    refine ⟨e, oe, cls, d, h1, st _ _ h2 soft_ext, h3, h4, C', h5, h6, ?_⟩
    cases hx : e.x with
    | none => rw [hx] at h7; exact h7
    | some y =>
      rw [hx] at h7
      obtain ⟨dd, v, k1, k2, k3⟩ := h7
      exact ⟨dd, v, k1, st _ _ k2 soft_xd, k3.same sg⟩
  mg := fun ⟨e, oe, cls, d, h1, h2, h3, h4, h5⟩ => .inr ⟨_, h2⟩
instance (C : Addr) (K : PySem.W.Frag) (mg : Str → Option Value) : Triv (errMemo C K mg) := ⟨fun _ _ => trivial⟩
instance (C : Addr) (K : PySem.W.Frag) (mg : Str → Option Value) : Still (errMemo C K mg) := ⟨fun _ z => z⟩
variable [mm : Memo]
end CK
namespace CK
open PySem PySem.Spec PyProof.Rows L2
def wManyT (K : PySem.W.Frag) (i : Nat) (D : Ends) : List (Value × (Addr → TS)) → WX
  | [] => fun _ _ _ _ => False
  | (c, ts) :: r => fun cls d σ H => ∃ b, PySem.W.exmOne K cls c = some b ∧
      (b = true → ∀ a oe, H a = none → L2N.Zn cls d oe → (∃ vs, oe.data = .fields vs) → ts a (endsT i D) (σ.set i (some (.ref a))) (upd H a (EX a oe))) ∧ (b = false → wManyT K i D r cls d σ H)
/-- which clause takes it -/
def pickH : List (List Str × Sm) → Str → Option Sm
  | [], _ => none
  | (ns, h) :: r, n => if ns.contains n = true then some h else pickH r n
variable [mm : Memo]
/-- in a clause: the exception that is handled is kept -/
def tHot (K : PySem.W.Frag) (P : List Nat) (h : Sm) (a : Addr) : TS := fun D σ H => (∃ oe, H a = some (EX a oe) ∧ PXN.CtxN oe ∧ ∃ us, oe.data = .fields us) ∧ tS K P h D σ H
/-- the clauses: rs are the names that are left for the later ones -/
inductive HdsD (X : Cx) (P : List Nat) (n : Str) : List ExceptHandler → List (List Str × Sm) → List Str → List (Value × (Addr → TS)) → Prop
  | nil : HdsD X P n [] [] [] []
  | cons {x : Str} {c : Value} {b₀ : Stmt} {suite : List Stmt} {np pos' : Pos} {hds : List ExceptHandler} {hl : List (List Str × Sm)} {ns rs : List Str} {h : Sm} {l : List (Value × (Addr → TS))} (hc : Names X x c)
      (hy : ∀ m ∈ ns, ∀ C, X.mg m = some (.ref C) → PySem.W.exmOne X.K (.ref C) c = some true) (hn : ∀ m ∈ rs, ∀ C, X.mg m = some (.ref C) → PySem.W.exmOne X.K (.ref C) c = some false)
      (hsu : ∀ (a : Addr) (pn : List (Addr × Obj)), PSs (X.suite a pn) (b₀ :: suite) (tHot X.K P h a)) (r : HdsD X P n hds hl rs l) :
      HdsD X P n (.ExceptHandler (some (.Name x np)) (some n) (b₀ :: suite) pos' :: hds) ((ns, h) :: hl) (ns ++ rs) ((c, tHot X.K P h) :: l)
section
variable {X : Cx} {P : List Nat} {n : Str} {hds : List ExceptHandler} {hl : List (List Str × Sm)} {rs : List Str} {l : List (Value × (Addr → TS))}
theorem HdsD.mem (h : HdsD X P n hds hl rs l) {m : Str} {f : Sm} (e : pickH hl m = some f) : m ∈ rs := by
  induction h with
  | nil => cases e
  | @cons x c b₀ suite np pos' hds hl ns rs h l hc hy hn hsu r ih =>
    unfold pickH at e
    by_cases z : ns.contains m = true
    · exact List.mem_append_left _ (by rw [List.contains_eq_mem] at z; exact of_decide_eq_true z)
    · rw [if_neg z] at e
      exact List.mem_append_right _ (ih e)
theorem HdsD.go (h : HdsD X P n hds hl rs l) {i : Nat} {D : Ends} {σ : SS} {H : Hp} {C : Addr} {d : Option Addr} {m : Str} {f : Sm} (e : pickH hl m = some f) (hm : X.mg m = some (.ref C))
    (q : ∀ a oe, H a = none → L2N.Zn (.ref C) d oe → (∃ vs, oe.data = .fields vs) → tHot X.K P f a (endsT i D) (σ.set i (some (.ref a))) (upd H a (EX a oe))) : wManyT X.K i D l (.ref C) d σ H := by
  induction h with
  | nil => cases e
  | @cons x c b₀ suite np pos' hds hl ns rs h l hc hy hn hsu r ih =>
    unfold pickH at e
    by_cases z : ns.contains m = true
    · rw [if_pos z] at e
      cases e
      exact ⟨true, hy m (by rw [List.contains_eq_mem] at z; exact of_decide_eq_true z) C hm, fun _ => q, fun w => by cases w⟩
    · rw [if_neg z] at e
      exact ⟨false, hn m (r.mem e) C hm, (fun w => by cases w), fun _ => ih e⟩
end
end CK
namespace CK
open PySem PySem.Spec PyProof.Rows L2
section
variable {M : Model} {prog : Program} {w : World} {A : Around} {E : Value → Shared → Prop} {s : Shared} {K : PySem.W.Frag} {x y C f : Addr} {ox oy : Obj} {od od2 : Option Obj}
theorem objNe_K {Q : Fin → Shared → Prop} (X : K.In s.heap) (I : PySem.W.InstAt s.heap x ox C od) (hs : PySem.W.findIn K (.ref C) "__eq__" = some (some (.ref f))) (hf : PySem.W.isFn K (.ref f) = true) (hu : A.units < cLine)
    (hcall : wpAny (model prog w) A (call (.ref f) [.ref x, .ref y]) (fun v s' => ∃ b, v = .bool b ∧ Q (.done (.ret (.bool (!b)))) s') E s) : wpAny (model prog w) A (Builtin.«object.__ne__» ⟨[.ref x, .ref y], []⟩) Q E s := by
  unfold Builtin.«object.__ne__»
  repeat (first
    | with_reducible refine wpAny_cRoomFor hu ?_
    | (refine wpAny_bind (m := callSpecialIfBound? (.ref x) (Str.ofString "__eq__") [.ref y])
        (PySem.W.ifBound_K X I hs hf (wpAny_mono hcall (fun r s' hr => by
          obtain ⟨b, rfl, hq⟩ := hr
          repeat (first | exact hq | exact wpAny_pure hq | exact wpAny_truthy_bool hq | (refine wpAny_bind (m := truthy (.bool _)) (wpAny_truthy_bool ?_)) | wp_step)) fun _ _ e => e)))
    | wp_step)
theorem call_objNe {Q : Value → Shared → Prop} (X : K.In s.heap) (I : PySem.W.InstAt s.heap x ox C od) (hm : PySem.W.mroIn K C (.type "object") = some true) (hs : PySem.W.findIn K (.ref C) "__eq__" = some (some (.ref f))) (hf : PySem.W.isFn K (.ref f) = true) (hu : A.units + 1 < cLine)
    (hcall : wpAny (model prog w) A.in1 (call (.ref f) [.ref x, .ref y]) (fun v s' => ∃ b, v = .bool b ∧ Q (.bool (!b)) s') E s) :
    wpAny (model prog w) A (call (.builtin "object.__ne__") [.ref x, .ref y]) Q E s :=
  wpAny_call (codeAny_call_builtin F.cmp_object.ne.plain F.cmpEntry_ne (PySem.W.check_slot F.cmpKind_ne F.cmpSplit_ne (I.type.andThen (PySem.W.looks_mroIn X hm)) (F.cmpArgs_ne _ _) (objNe_K X I hs hf hu (wpAny_mono hcall (fun v s' hv => by
    obtain ⟨b, rfl, hq⟩ := hv
    exact ⟨b, rfl, hq⟩) fun _ _ e => e))))
theorem ifBound_objNe {args : List Value} {Q : Option Value → Shared → Prop} (X : K.In s.heap) (I : PySem.W.InstAt s.heap x ox C od) (hs : PySem.W.findIn K (.ref C) "__ne__" = some (some (.builtin "object.__ne__")))
    (h : wpAny M A (call (.builtin "object.__ne__") (.ref x :: args)) (fun v => Q (some v)) E s) : wpAny M A (callSpecialIfBound? (.ref x) "__ne__" args) Q E s := by
  simp only [callSpecialIfBound?, bindSpecialIfBound?]
  refine wpAny_holding (wpAny_bind (wpAny_bind (wpAny_bind (I.type.here ((PySem.W.looks_findIn X hs).here ?_)))))
  refine wpAny_bind (wpAny_askSetting (wpAny_ite ?_))
  have fin : wpAny M A (call (.builtin "object.__ne__") ([.ref x] ++ args) >>= fun v => pure (some v)) Q E s := wpAny_bind (wpAny_mono h (fun v s' h' => wpAny_pure h') fun _ _ h' => h')
  split
  · exact wpAny_bind (wpAny_of_eq (F.cmp_object.ne.bind _) (wpAny_pure (by exact fin)))
  · exact wpAny_tryCatch (wpAny_bind (wpAny_of_eq (F.cmp_object.ne.bind _) (wpAny_pure (by exact fin))))
theorem rc_neK {Q : Value → Shared → Prop} (hu : A.units + 1 < cLine) (X : K.In s.heap) (I : PySem.W.InstAt s.heap x ox C od) (J : PySem.W.InstAt s.heap y oy C od2) (hn : PySem.W.findIn K (.ref C) "__ne__" = some (some (.builtin "object.__ne__"))) (hm : PySem.W.mroIn K C (.type "object") = some true)
    (hs : PySem.W.findIn K (.ref C) "__eq__" = some (some (.ref f))) (hf : PySem.W.isFn K (.ref f) = true)
    (hcall : wpAny (model prog w) A.in1 (call (.ref f) [.ref x, .ref y]) (fun v s' => ∃ b, v = .bool b ∧ Q (.bool (!b)) s') E s) : wpAny (model prog w) A (richCompare .NotEq (.ref x) (.ref y)) Q E s := by
  have one : wpAny (model prog w) A (tryCompare (.ref x) "__ne__" (.ref y)) (fun r s' => ∃ v, r = some v ∧ Q v s') E s := by
    unfold tryCompare
    refine wpAny_bind (ifBound_objNe X I hn (call_objNe X I hm hs hf hu (wpAny_mono hcall (fun v s' hv => ?_) fun _ _ e => e)))
    obtain ⟨b, rfl, hq⟩ := hv
    exact ⟨b, rfl, wpAny_pure ⟨_, rfl, hq⟩⟩
  unfold richCompare
  simp only [oneThing_ref]
  refine wpAny_holding (wpAny_bind (wpAny_cRoomFor (by omega) ?_))
  rw [cmpInfo_NotEq]
  dsimp only
  refine wpAny_bind (I.type.here (wpAny_bind (J.type.here ?_)))
  split
  · rename_i q
    simp at q
  · refine wpAny_bind (wpAny_pure ?_)
    simp only [Bool.false_eq_true, if_false]
    refine wpAny_bind (wpAny_mono one (fun r s' z => ?_) fun _ _ e => e)
    obtain ⟨v, rfl, hq⟩ := z
    exact wpAny_pure hq
end
variable [Memo]
def rNeO (C : Addr) (sp : Sp) (E : XK) : R2 := fun x y H Q => ∃ a b dx dy fs gs, x = .ref a ∧ y = .ref b ∧ H a = some (.ins C dx fs) ∧ H b = some (.ins C dy gs) ∧ sp [.ref a, .ref b] H (fun v H' => ∃ k, v = .bl k ∧ Q (.bl (!k)) H') E
section
variable {X : Cx} {CX : CXT} {k : Nat} {f C : Addr} {fd : FuncData} {ps : List Str} {sp : Sp} {E : XK}
theorem op_neO (hgd : X.A.guards = some []) (hu : X.A.units + 64 < cLine) (hm : Meth X.K C "__eq__" f) (hn : PySem.W.findIn X.K (.ref C) "__ne__" = some (some (.builtin "object.__ne__"))) (ho : PySem.W.mroIn X.K C (.type "object") = some true)
    (F : FnG X.prog X.w X.K X.mg X.base CX k f fd ps sp) (hr : Room (k + 1) X.A) (hb : Binds X.K fd ps []) (hx : Passes CX X.nox E) : OpR X (compareOp .NotEq) (rNeO C sp E) := by
  intro pins s σ H x y v u Q I rx ry h
  obtain ⟨a, b, dx, dy, fs, gs, rfl, rfl, ea, eb, h⟩ := h
  cases rx
  cases ry
  obtain ⟨mA, O, _⟩ := ins_get I.hok ea
  obtain ⟨od, J, _⟩ := O.look
  obtain ⟨mB, O2, _⟩ := ins_get I.hok eb
  obtain ⟨od2, J2, _⟩ := O2.look
  show wpAny (model X.prog X.w) X.A (richCompare .NotEq (.ref a) (.ref b)) (EP X pins σ Q) X.xe s
  refine rc_neK (by omega) I.kIn J J2 hn ho hm.at_ hm.fn ?_
  have hl : ([Value.ref a, Value.ref b] ++ []).length = ps.length := by
    rw [← F.arity _ _ _ _ h]; rfl
  refine wpAny_call (codeAny_mono (F.go X.A.in1 X.stack s H ⟨[.ref a, .ref b], []⟩ [.ref a, .ref b] [.ref a, .ref b] _ E (guards_in1 hgd) hr.in1 I.env0.in1 (hb _ [.ref a, .ref b] I.kIn hl) (.cons rfl (.cons rfl .nil)) h) fun r s' hq => ?_)
  cases r with
  | error er => exact False.elim (hx pins σ H s er s' (I.wish _) hq)
  | ok fl =>
    cases fl with
    | ret u =>
      obtain ⟨v, H', I3, rv, q3⟩ := I.after hq
      obtain ⟨k, rfl, q3⟩ := q3
      cases rv
      exact ⟨k, rfl, .bl (!k), H', I3, rfl, q3⟩
    | next => exact False.elim hq
    | brk => exact False.elim hq
    | cont => exact False.elim hq
end
theorem kit_self {K : PySem.W.Frag} {C : Addr} : PySem.W.kitOne K (.ref C) (.ref C) = some true := by
  unfold PySem.W.kitOne
  simp
structure IsC (K : PySem.W.Frag) (C : Addr) : Prop where
  ha : PySem.W.findIn K (.ref C) "__class__" = some (some (.builtin "object.__class__"))
  hn : PySem.W.specialIn K (.builtin "object.__class__") "__get__" = some (some (.builtin "getset_descriptor.__get__"))
  ht : PySem.W.takesIn K (.builtin "object.__class__") = some true
  hm : PySem.W.mroIn K C (.type "object") = some true
end CK
namespace CK
open PySem PySem.Spec PyProof.Rows L2
variable [Memo]
inductive Eo where
  | nm (i : Nat)
  | nw (F : Ex)
  | dt (F : Ex)
def Eo.ev : Eo → Ex
  | .nm i => fun δ => (objS δ[i]?).bind fun _ => some (.no, δ)
  | .nw F => fun δ => (F δ).bind fun x => (objS (some x.1)).bind fun _ => some x
  | .dt F => fun δ => (F δ).bind fun x => x.1.sh.bind fun d => some (.im d, x.2)
def Eo.ag (n : Nat) : Eo → Ag
  | .nm i => .io i
  | .nw _ => .io n
  | .dt _ => .ex (dN n)
/-- how the value lies, and what is put aside -/
def EoV (K : PySem.W.Frag) (σ : SS) (a : Eo) (G H Hs : Hp) (δ : List Sl) (v : V) (s : Sl) : Prop := match a with
  | .nm i => s = .no ∧ σ[i]? = some (some v)
  | .nw _ => (∃ fs ds, s = .bx (.o fs) ds) ∧ RV K G H Hs σ δ v s
  | .dt _ => ∃ d, s = .im d ∧ Rp K G v d
def tEo (K : PySem.W.Frag) (a : Eo) : TE := fun σ H Q => ∃ (G : Hp) (δ : List Sl) (s : Sl) (δ' : List Sl), Rel K G H σ δ ∧ a.ev δ = some (s, δ') ∧
  ∀ (v : V) (G' H' : Hp), Rel K G' H' σ δ' → Stp σ δ G H σ δ' G' H' → EoV K σ a G' H' H δ' v s → Q v H'
theorem objS_bx {s : Option Sl} {o : List Str × List PyData} (h : objS s = some o) : s = some (.bx (.o o.1) o.2) := by
  unfold objS at h
  split at h
  · cases h; rfl
  · cases h
section
variable {X : Cx} {x : Str} {p : Pos} {e : Expr} {F : Ex}
theorem eo_nm (i : Nat) (hN : X.N[i]? = some x := by rfl) (hv : Vis X.env.scope x := by first | exact Or.inl rfl | exact Or.inr (Or.inl rfl) | exact Or.inr (Or.inr rfl)) (hd : (x == ("__debug__" : Str)) = false := by decide) (hcd : (x == ("__classdict__" : Str)) = false := by decide) :
    PE X (.Name x p) (tEo X.K (.nm i)) := PE.by (pe_var hN hv hd hcd) fun σ H Q h => by
  obtain ⟨G, δ, s, δ', R, e, q⟩ := h
  obtain ⟨o, e0, e⟩ := bind_some_of e
  cases e
  obtain ⟨a, ws, k1, _⟩ := R.bx (objS_bx e0)
  exact ⟨_, k1, q _ G H R Stp.refl ⟨rfl, k1⟩⟩
theorem eo_nw (h : DE X e F) : PE X e (tEo X.K (.nw F)) := PE.by h fun σ H Q h => by
  obtain ⟨G, δ, s, δ', R, e, q⟩ := h
  obtain ⟨x, e1, e⟩ := bind_some_of e
  obtain ⟨o, e0, e⟩ := bind_some_of e
  cases e
  exact ⟨G, δ, s, δ', R, e1, fun v G1 H1 R1 st1 rv => q v G1 H1 R1 st1 ⟨⟨o.1, o.2, Option.some.inj (objS_bx e0)⟩, rv⟩⟩
end
theorem EoV.aside {K : PySem.W.Frag} {σ : SS} {a : Eo} {G H Hs G1 H1 : Hp} {δ δ1 : List Sl} {v : V} {s : Sl} (h : EoV K σ a G H Hs δ v s) (st : Stp σ δ G H σ δ1 G1 H1) : EoV K σ a G1 H1 Hs δ1 v s := by
  cases a with
  | nm i => exact h
  | nw F =>
    obtain ⟨⟨fs, ds, rfl⟩, rv⟩ := h
    exact ⟨⟨fs, ds, rfl⟩, rv.aside st⟩
  | dt F =>
    obtain ⟨d, rfl, r⟩ := h
    exact ⟨d, rfl, r.same st.same⟩
theorem EoV.ok {K : PySem.W.Frag} {σ : SS} {a : Eo} {G H Hs : Hp} {δ : List Sl} {v : V} {s : Sl} (h : EoV K σ a G H Hs δ v s) : SlotOk K G H (some v) s ∧ (∀ p t ds, s = .bx t ds → v = .ref p → ¬ Own σ δ p ∧ Hs p = none) := by
  cases a with
  | nm i =>
    obtain ⟨rfl, _⟩ := h
    exact ⟨trivial, fun _ _ _ z => nomatch z⟩
  | nw F =>
    obtain ⟨⟨fs, ds, rfl⟩, p, ws, rfl, b, g, n, f, r⟩ := h
    exact ⟨⟨p, ws, rfl, b, g, r⟩, fun p' t ds e1 e2 => by cases e2; exact ⟨n, f⟩⟩
  | dt F =>
    obtain ⟨d, rfl, r⟩ := h
    exact ⟨⟨v, rfl, r⟩, fun _ _ _ z => nomatch z⟩
/-- what is asked of a class whose objects are likened -/
structure EqC (K : PySem.W.Frag) (C : Addr) : Prop where
  ic : IsC K C
  ne : PySem.W.findIn K (.ref C) "__ne__" = some (some (.builtin "object.__ne__"))
  ty : PySem.W.typeIn K (.ref C) = some (.type "type")
theorem sub_data {K : PySem.W.Frag} {C : Addr} {T : String} (h : (fastFind? T).isSome = true) : PySem.W.subIn K (.type T) (.ref C) = some false := by
  show (fastBuiltinMro T).map (·.contains (.ref C)) = some false
  unfold fastBuiltinMro
  obtain ⟨m, e⟩ := Option.isSome_iff_exists.mp h
  rw [e]
  show some (List.contains (m.mro.map Value.type) (.ref C)) = some false
  refine congrArg some ?_
  generalize m.mro = l
  induction l with
  | nil => rfl
  | cons a l ih => rw [List.map_cons, List.contains_cons, ih]; rfl
theorem cls_found {d : PyData} {t : String} (h : clsE d = some t) : (fastFind? t).isSome = true := by
  cases d <;> cases h <;> decide +kernel
theorem kit_data {K : PySem.W.Frag} {C : Addr} {T : String} (c : Cls K C) (ty : PySem.W.typeIn K (.ref C) = some (.type "type")) (h : (fastFind? T).isSome = true) : PySem.W.kitOne K (.type T) (.ref C) = some false := by
  unfold PySem.W.kitOne
  rw [if_neg (by simp)]
  show (if ((PySem.W.clsIn K C).isSome && PySem.W.typeIn K (.ref C) == some (.type "type")) = true then PySem.W.subIn K (.type T) (.ref C) else none) = some false
  obtain ⟨cd, hc, _⟩ := PySem.W.any_some c.hd
  rw [hc, ty, sub_data h]
  rfl
/-- a value's class, as it lies -/
theorem SlotOk.tyO {X : Cx} {G H : Hp} {v : V} {s : Sl} (c : Cls X.K Memo.C) (E : EqC X.K Memo.C) (sg : Same G H) (h : SlotOk X.K G H (some v) s) (hs : (∃ fs ds, s = .bx (.o fs) ds) ∨ ∃ d, s = .im d) : ∃ t, TyX X.K H v t ∧ PySem.W.notFirst X.K Memo.C t = true := by
  rcases hs with ⟨fs, ds, rfl⟩ | ⟨d, rfl⟩
  · obtain ⟨p, ws, e, ⟨dx, b⟩, _⟩ := h
    cases e
    exact ⟨.ref Memo.C, .base (.ins b c E.ic.ha E.ic.hn E.ic.ht E.ic.hm), by simp [PySem.W.notFirst]⟩
  · obtain ⟨u, e, r⟩ := h
    cases e
    obtain ⟨t, ht⟩ : ∃ t, clsE d = some t := by cases d <;> exact ⟨_, rfl⟩
    refine ⟨.type t, RT.tyE sg (.inl r) ht, ?_⟩
    unfold PySem.W.notFirst
    rw [sub_data (cls_found ht)]
    simp
def rEqO (K : PySem.W.Frag) (C : Addr) (sp : Sp) (E : XK) : R2 := fun x y H Q => ∃ a dx fs t, x = .ref a ∧ H a = some (.ins C dx fs) ∧ TyX K H y t ∧ PySem.W.notFirst K C t = true ∧ sp [.ref a, y] H (fun v H' => ∃ k, v = .bl k ∧ Q (.bl k) H') E
section
variable {X : Cx} {CX : CXT} {k : Nat} {f C : Addr} {fd : FuncData} {ps : List Str} {sp : Sp} {E : XK}
theorem op_eqO (hgd : X.A.guards = some []) (hu : X.A.units + 64 < cLine) (hm : Meth X.K C "__eq__" f)
    (F : FnG X.prog X.w X.K X.mg X.base CX k f fd ps sp) (hr : Room k X.A) (hb : Binds X.K fd ps []) (hx : Passes CX X.nox E) : OpR X (compareOp .Eq) (rEqO X.K C sp E) := by
  intro pins s σ H x y v u Q I rx ry h
  obtain ⟨a, dx, fs, t, rfl, ea, ty, hn, h⟩ := h
  cases rx
  obtain ⟨mA, O, _⟩ := ins_get I.hok ea
  obtain ⟨od, J, _⟩ := O.look
  obtain ⟨P, Z, pz, _⟩ := kit_of I ry ty
  obtain ⟨m, hF⟩ := I.fr
  show wpAny (model X.prog X.w) X.A (richCompare .Eq (.ref a) u) (EP X pins σ Q) X.xe s
  refine PySem.W.cmp_K (op := .Eq) (tb := t) (by omega) hF I.ok.mod.kin J (Z.ty _ _ I.kIn pz) hn hm.at_ hm.fn ?_
  have hl : ([Value.ref a, u] ++ []).length = ps.length := by
    rw [← F.arity _ _ _ _ h]; rfl
  refine wpAny_call (codeAny_mono (F.go X.A X.stack s H ⟨[.ref a, u], []⟩ [.ref a, u] [.ref a, y] _ E hgd hr I.env0 (hb _ [.ref a, u] I.kIn hl) (.cons rfl (.cons ry .nil)) h) fun r s' hq => ?_)
  cases r with
  | error er => exact False.elim (hx pins σ H s er s' (I.wish _) hq)
  | ok fl =>
    cases fl with
    | ret u =>
      obtain ⟨v, H', I3, rv, q3⟩ := I.after hq
      obtain ⟨k, rfl, q3⟩ := q3
      cases rv
      exact ⟨.bl k, H', I3, rfl, q3⟩
    | next => exact False.elim hq
    | brk => exact False.elim hq
    | cont => exact False.elim hq
end
/-- where it stands -/
def Eo.ix (n : Nat) : Eo → Nat
  | .nm i => i
  | _ => n
def eoC (l : List Sl) (n : Nat) (a : Eo) : Option Unit := match a with
  | .dt _ => some ()
  | a => (objS l[a.ix n]?).bind fun _ => some ()
/-- x == y, x != y by the own __eq__ -/
def dEqG (neg : Bool) (fn : Fn) (a b : Eo) : Ex := fun δ => (a.ev δ).bind fun x => (b.ev x.2).bind fun y => (eoC (y.2 ++ [x.1] ++ [y.1]) δ.length a).bind fun _ => (eoC (y.2 ++ [x.1] ++ [y.1]) (δ.length + 1) b).bind fun _ =>
  (dCall fn [a.ag δ.length, b.ag (δ.length + 1)] (y.2 ++ [x.1] ++ [y.1])).bind fun z => match z.1 with
    | .im (.bool k) => some (.im (.bool (k ^^ neg)), z.2.take δ.length)
    | _ => none
theorem agB_len : ∀ {as : List Ag} {ss δ : List Sl}, (agB as ss δ).length = δ.length
  | [], _, _ => rfl
  | .io i :: r, [], _ => rfl
  | .ex _ :: r, [], _ => rfl
  | .io i :: r, s :: ss, δ => by
    show (agB r ss (δ.set i s)).length = _
    rw [agB_len (as := r), List.length_set]
  | .ex _ :: r, s :: ss, δ => agB_len (as := r)
section
variable {K : PySem.W.Frag} {σ : SS} {H : Hp} {Q : VK} {fn : Fn} {a b : Eo} {neg : Bool}
/-- the two values, and the call between them -/
theorem eqG_go [Still ‹Memo›] (ha : ∀ F, a ≠ .dt F) (hne : ∀ i j, a = .nm i → b = .nm j → i ≠ j) (h : tD K (dEqG neg fn a b) σ H Q) :
    tEo K a σ H fun v1 H1 => tEo K b σ H1 fun v2 H2 => ∃ (G : Hp) (s1 s2 : Sl), SlotOk K G H2 (some v1) s1 ∧ SlotOk K G H2 (some v2) s2 ∧ Same G H2 ∧ (∃ fs ds, s1 = .bx (.o fs) ds) ∧ ((∃ fs ds, s2 = .bx (.o fs) ds) ∨ (∃ d, s2 = .im d) ∧ ∃ F, b = .dt F) ∧
      spD K 2 fn [v1, v2] H2 (fun v H' => ∃ k, v = .bl k ∧ Q (.bl (k ^^ neg)) H') E0 := by
  obtain ⟨G, δ, r, δ', R, e, q⟩ := h
  obtain ⟨⟨s1, δ1⟩, e1, e⟩ := bind_some_of e
  obtain ⟨⟨s2, δ2⟩, e2, e⟩ := bind_some_of e
  obtain ⟨_, c1, e⟩ := bind_some_of e
  obtain ⟨_, c2, e⟩ := bind_some_of e
  obtain ⟨⟨z, δ3⟩, e3, e⟩ := bind_some_of e
  dsimp only at c1 c2 e3 e
  obtain ⟨k, rfl, rfl, rfl⟩ : ∃ k, z = .im (.bool k) ∧ r = .im (.bool (k ^^ neg)) ∧ δ' = δ3.take δ.length := by
    cases z with
    | im d =>
      cases d with
      | bool k => cases e; exact ⟨k, rfl, rfl, rfl⟩
      | _ => cases e
    | _ => cases e
  refine ⟨G, δ, s1, δ1, R, e1, fun v1 G1 H1 R1 st1 w1 => ⟨G1, δ1, s2, δ2, R1, e2, fun v2 G2 H2 R2 st2 w2 => ?_⟩⟩
  have w0 := w1
  have w1 := w1.aside st2
  have st12 := st1.trans st2
  obtain ⟨k1, n1⟩ := w1.ok
  obtain ⟨k2, n2⟩ := w2.ok
  have hl : δ.length = σ.length := R.len.symm
  have hl2 : δ2.length = σ.length := R2.len.symm
  have P1 := R2.push k1 fun p t ds e1 e2 => (n1 p t ds e1 e2).1
  have ne12 : ∀ p t ds, s2 = .bx t ds → v2 = .ref p → ¬ Own (σ ++ [some v1]) (δ2 ++ [s1]) p := fun p t ds z1 z2 z => by
    rcases own_push R2.len z with z | ⟨z, t', ds', z'⟩
    · exact (n2 p t ds z1 z2).1 z
    · have hp : v1 = .ref p := Option.some.inj z
      have h0 := (n2 p t ds z1 z2).2
      cases a with
      | nm i => rw [w0.1] at z'; cases z'
      | nw F =>
        obtain ⟨⟨fs, ds, rfl⟩, p', ws, e', b', _⟩ := w0
        rw [hp] at e'
        cases e'
        exact b'.not h0
      | dt F => exact (ha F rfl).elim
  have P2 := P1.push k2 ne12
  have S1 := (Stp.push R2.len st12 (o := some v1) (s := s1) fun p t ds e1 e2 => (n1 p t ds e1 (Option.some.inj e2)).2)
  have S2 := (Stp.push P1.len S1 (o := some v2) (s := s2) fun p t ds e1 e2 => st1.dom p (n2 p t ds e1 (Option.some.inj e2)).2)
  have g0 : ∀ {i : Nat} {v : V}, σ[i]? = some (some v) → i < σ.length ∧ (σ ++ [some v1] ++ [some v2])[i]? = some (some v) := fun {i v} e => by
    have h : i < σ.length := (List.getElem?_eq_some_iff.mp e).1
    exact ⟨h, by rw [List.append_assoc, List.getElem?_append_left h]; exact e⟩
  have g1 : (σ ++ [some v1] ++ [some v2])[σ.length]? = some (some v1) := by
    rw [List.append_assoc, List.getElem?_append_right (Nat.le_refl _), Nat.sub_self]; rfl
  have g2 : (σ ++ [some v1] ++ [some v2])[σ.length + 1]? = some (some v2) := by
    rw [List.append_assoc, List.getElem?_append_right (by omega), show σ.length + 1 - σ.length = 1 by omega]; rfl
  -- the left one
  have ga : ∃ fs ds, (δ2 ++ [s1] ++ [s2])[a.ix δ.length]? = some (.bx (.o fs) ds) ∧ a.ag δ.length = .io (a.ix δ.length) ∧ (σ ++ [some v1] ++ [some v2])[a.ix δ.length]? = some (some v1) ∧ (a.ix δ.length < σ.length ∨ a.ix δ.length = σ.length) := by
    cases a with
    | nm i =>
      obtain ⟨o, c1, _⟩ := bind_some_of c1
      exact ⟨_, _, objS_bx c1, rfl, (g0 w1.2).2, .inl (g0 w1.2).1⟩
    | nw F =>
      obtain ⟨o, c1, _⟩ := bind_some_of c1
      exact ⟨_, _, objS_bx c1, rfl, by show (σ ++ [some v1] ++ [some v2])[δ.length]? = _; rw [hl]; exact g1, .inr hl⟩
    | dt F => exact (ha F rfl).elim
  obtain ⟨fs1, ds1, x1, ag1, y1, in1⟩ := ga
  have gb : (∃ fs ds, (δ2 ++ [s1] ++ [s2])[b.ix (δ.length + 1)]? = some (.bx (.o fs) ds) ∧ b.ag (δ.length + 1) = .io (b.ix (δ.length + 1)) ∧ (σ ++ [some v1] ++ [some v2])[b.ix (δ.length + 1)]? = some (some v2) ∧ a.ix δ.length ≠ b.ix (δ.length + 1)) ∨
      ∃ d, b.ag (δ.length + 1) = .ex (dN (δ.length + 1)) ∧ s2 = .im d ∧ Rp K G2 v2 d ∧ ∃ F, b = .dt F := by
    cases b with
    | nm j =>
      obtain ⟨o, c2, _⟩ := bind_some_of c2
      refine .inl ⟨_, _, objS_bx c2, rfl, (g0 w2.2).2, fun z => ?_⟩
      have hj := (g0 w2.2).1
      have z : a.ix δ.length = j := z
      cases a with
      | nm i => exact hne i j rfl rfl z
      | nw F => have z : δ.length = j := z; omega
      | dt F => exact (ha F rfl).elim
    | nw F =>
      obtain ⟨o, c2, _⟩ := bind_some_of c2
      refine .inl ⟨_, _, objS_bx c2, rfl, by show (σ ++ [some v1] ++ [some v2])[δ.length + 1]? = _; rw [hl]; exact g2, fun z => ?_⟩
      have z : a.ix δ.length = δ.length + 1 := z
      omega
    | dt F =>
      obtain ⟨d, hd, rp⟩ := w2
      exact .inr ⟨d, rfl, hd, rp, F, rfl⟩
  have k1' : SlotOk K G2 H2 (some v1) (.bx (.o fs1) ds1) := by
    have := P2.slot _ _ x1
    rwa [y1] at this
  have fin : ∀ {as : List Ag} {ss ss' : List Sl} {ps : List (Option Sl)}, (agI as).Nodup → as.length = 2 → AW K G2 (σ ++ [some v1] ++ [some v2]) [v1, v2] as ps → agS as ps (δ2 ++ [s1] ++ [s2]) = some ss → fn ss = some (.im (.bool k), ss') → δ3 = agB as ss' (δ2 ++ [s1] ++ [s2]) →
      spD K 2 fn [v1, v2] H2 (fun v H' => ∃ k, v = .bl k ∧ Q (.bl (k ^^ neg)) H') E0 := fun {as ss ss' ps} nd hn aw x2 x3 x4 => call_core nd hn P2 aw x2 x3 (.inl Still.st) fun v G3 H3 R3 st3 rv => by
    rw [← x4] at R3 st3
    have rv : Rp K G3 v (.bool k) := rv
    cases rv
    have hl3 : δ3.length = (σ ++ ([some v1] ++ [some v2])).length := by
      rw [x4, agB_len]; simp [hl2]
    rw [List.append_assoc] at R3
    have R4 := R3.pop hl3
    have st4 := S2.trans st3
    rw [List.append_assoc σ] at st4
    have st5 := st4.pop
    rw [← hl] at R4 st5
    exact ⟨k, rfl, q (.bl (k ^^ neg)) G3 H3 R4 st5 (Rp.bl _)⟩
  refine ⟨G2, .bx (.o fs1) ds1, ?_⟩
  obtain ⟨⟨ps, δ4⟩, e4, e5⟩ := bind_some_of e3
  obtain ⟨ss, e6, e7⟩ := bind_some_of e5
  obtain ⟨⟨r1, ss'⟩, e8, e9⟩ := bind_some_of e7
  cases e9
  dsimp only at e6 e8
  rw [ag1] at e4 e6 fin
  rcases gb with ⟨fs2, ds2, x2, ag2, y2, ne⟩ | ⟨d, ag2, rfl, rp, hF⟩
  · rw [ag2] at e4 e6
    have k2' : SlotOk K G2 H2 (some v2) (.bx (.o fs2) ds2) := by
      have := P2.slot _ _ x2
      rwa [y2] at this
    refine ⟨.bx (.o fs2) ds2, k1', k2', R2.sub, ⟨_, _, rfl⟩, .inl ⟨_, _, rfl⟩, ?_⟩
    obtain ⟨_, _, e4⟩ := bind_some_of e4
    obtain ⟨⟨ps1, δ5⟩, e10, e4⟩ := bind_some_of e4
    cases e4
    obtain ⟨_, _, e10⟩ := bind_some_of e10
    obtain ⟨⟨ps2, δ6⟩, e11, e10⟩ := bind_some_of e10
    cases e11
    cases e10
    exact fin (as := [.io (a.ix δ.length), .io (b.ix (δ.length + 1))]) (ps := [none, none]) (by simp [agI]; exact ne) rfl ⟨y1, y2, trivial⟩ e6 e8 (by rw [ag2])
  · rw [ag2] at e4 e6
    refine ⟨.im d, k1', k2, R2.sub, ⟨_, _, rfl⟩, .inr ⟨⟨_, rfl⟩, hF⟩, ?_⟩
    obtain ⟨_, _, e4⟩ := bind_some_of e4
    obtain ⟨⟨ps1, δ5⟩, e10, e4⟩ := bind_some_of e4
    cases e4
    obtain ⟨⟨s, δ6⟩, e11, e10⟩ := bind_some_of e10
    have hd : (δ2 ++ [s1] ++ [Sl.im d])[δ.length + 1]? = some (.im d) := by
      rw [List.append_assoc, List.getElem?_append_right (by omega), hl, hl2, show σ.length + 1 - σ.length = 1 by omega]; rfl
    unfold dN at e11
    rw [hd] at e11
    cases e11
    obtain ⟨sa, e12, e10⟩ := bind_some_of e10
    cases e12
    obtain ⟨⟨ps2, δ7⟩, e13, e10⟩ := bind_some_of e10
    cases e13
    cases e10
    exact fin (as := [.io (a.ix δ.length), .ex (dN (δ.length + 1))]) (ps := [none, some (.im d)]) (by simp [agI]) rfl ⟨y1, rp, trivial⟩ e6 e8 (by rw [ag2])
end
theorem tEo.mono {K : PySem.W.Frag} {σ : SS} {H : Hp} {a : Eo} {Q Q' : VK} (h : tEo K a σ H Q) (w : ∀ v H1, Q v H1 → Q' v H1) : tEo K a σ H Q' := by
  obtain ⟨G, δ, s, δ', R, e, q⟩ := h
  exact ⟨G, δ, s, δ', R, e, fun v G1 H1 R1 st rv => w _ _ (q v G1 H1 R1 st rv)⟩
section
variable {X : Cx} {k : Nat} {f : Addr} {fd : FuncData} {ps : List Str} {fn : Fn} {pos : Pos} {a b : Eo} {e1 e2 : Expr}
theorem eq_read {σ : SS} {H : Hp} {Q : VK} [Still ‹Memo›] (c : Cls X.K Memo.C) (E : EqC X.K Memo.C) (ha : ∀ F, a ≠ .dt F) (hne : ∀ i j, a = .nm i → b = .nm j → i ≠ j) (h : tD X.K (dEqG false fn a b) σ H Q) :
    tEo X.K a σ H fun v1 H1 => tEo X.K b σ H1 fun v2 H2 => rEqO X.K Memo.C (spD X.K 2 fn) E0 v1 v2 H2 Q := by
  refine (eqG_go ha hne h).mono fun v1 H1 h => h.mono fun v2 H2 h => ?_
  obtain ⟨G, s1, s2, k1, k2, sg, ⟨fs, ds, rfl⟩, hs2, sp⟩ := h
  obtain ⟨t, ty, hn⟩ := k2.tyO c E sg (hs2.imp id fun z => z.1)
  obtain ⟨p, ws, e, ⟨dx, z⟩, _⟩ := k1
  cases e
  exact ⟨p, dx, _, t, rfl, z, ty, hn, by simpa only [Bool.xor_false] using sp⟩
theorem ne_read {σ : SS} {H : Hp} {Q : VK} [Still ‹Memo›] (ha : ∀ F, a ≠ .dt F) (hb2 : ∀ F, b ≠ .dt F) (hne : ∀ i j, a = .nm i → b = .nm j → i ≠ j) (h : tD X.K (dEqG true fn a b) σ H Q) :
    tEo X.K a σ H fun v1 H1 => tEo X.K b σ H1 fun v2 H2 => rNeO Memo.C (spD X.K 2 fn) E0 v1 v2 H2 Q := by
  refine (eqG_go ha hne h).mono fun v1 H1 h => h.mono fun v2 H2 h => ?_
  obtain ⟨G, s1, s2, k1, k2, sg, ⟨fs, ds, rfl⟩, hs2, sp⟩ := h
  rcases hs2 with ⟨fs2, ds2, rfl⟩ | ⟨_, F, z⟩
  · obtain ⟨p, ws, e, ⟨dx, z⟩, _⟩ := k1
    cases e
    obtain ⟨p2, ws2, e, ⟨dx2, z2⟩, _⟩ := k2
    cases e
    exact ⟨p, p2, dx, dx2, _, _, rfl, rfl, z, z2, by simpa only [Bool.xor_true] using sp⟩
  · exact (hb2 F z).elim
theorem tst_go {K : PySem.W.Frag} {σ : SS} {H : Hp} {neg : Bool} {Q : Bool → Hp → Prop} (h : tT K (tOfE (dEqG neg fn a b)) σ H Q) : tD K (dEqG neg fn a b) σ H fun v H' => ∃ k, v = .bl k ∧ Q k H' := by
  obtain ⟨G, δ, k, δ', R, e, q⟩ := h
  obtain ⟨⟨r, δ1⟩, e1, e⟩ := bind_some_of e
  obtain ⟨k', e2, e⟩ := bind_some_of e
  cases e
  refine ⟨G, δ, r, δ1, R, e1, fun v G1 H1 R1 st rv => ?_⟩
  cases r with
  | im d =>
    cases d with
    | bool k =>
      cases e2
      have rv : Rp K G1 v (.bool k) := rv
      cases rv
      exact ⟨k, rfl, q G1 H1 R1 st⟩
    | _ => cases e2
  | _ => cases e2
theorem de_eqG [Still ‹Memo›] (hgd : X.A.guards = some []) (hu : X.A.units + 64 < cLine) (c : Cls X.K Memo.C) (hm : Meth X.K Memo.C "__eq__" f) (E : EqC X.K Memo.C) (F : FnG X.prog X.w X.K X.mg X.base CX0 k f fd ps (spD X.K 2 fn)) (hr : Room k X.A) (hb : Binds X.K fd ps [])
    (h1 : PE X e1 (tEo X.K a)) (h2 : PE X e2 (tEo X.K b)) (ha : ∀ F, a ≠ .dt F := by intro _ z; cases z) (hne : ∀ i j, a = .nm i → b = .nm j → i ≠ j := by intro i j z1 z2; cases z1 <;> cases z2 <;> decide) :
    DE X (.Compare e1 [.Eq] [e2] pos) (dEqG false fn a b) :=
  PE.by (pe_cmpR (op_eqO hgd hu hm F hr hb pass0) h1 h2 (nomark _)) fun _ _ _ h => eq_read c E ha hne h
theorem dt_eqG [Still ‹Memo›] (hgd : X.A.guards = some []) (hu : X.A.units + 64 < cLine) (c : Cls X.K Memo.C) (hm : Meth X.K Memo.C "__eq__" f) (E : EqC X.K Memo.C) (F : FnG X.prog X.w X.K X.mg X.base CX0 k f fd ps (spD X.K 2 fn)) (hr : Room k X.A) (hb : Binds X.K fd ps [])
    (h1 : PE X e1 (tEo X.K a)) (h2 : PE X e2 (tEo X.K b)) (ha : ∀ F, a ≠ .dt F := by intro _ z; cases z) (hne : ∀ i j, a = .nm i → b = .nm j → i ≠ j := by intro i j z1 z2; cases z1 <;> cases z2 <;> decide) :
    DT X (.Compare e1 [.Eq] [e2] pos) (tOfE (dEqG false fn a b)) :=
  PT.by (pt_cmpR (op_eqO hgd hu hm F hr hb pass0) h1 h2 (nomark _)) fun _ _ _ h => eq_read c E ha hne (tst_go h)
theorem dt_neG [Still ‹Memo›] (hgd : X.A.guards = some []) (hu : X.A.units + 64 < cLine) (hm : Meth X.K Memo.C "__eq__" f) (E : EqC X.K Memo.C) (F : FnG X.prog X.w X.K X.mg X.base CX0 k f fd ps (spD X.K 2 fn)) (hr : Room (k + 1) X.A) (hb : Binds X.K fd ps [])
    (h1 : PE X e1 (tEo X.K a)) (h2 : PE X e2 (tEo X.K b)) (ha : ∀ F, a ≠ .dt F := by intro _ z; cases z) (hb2 : ∀ F, b ≠ .dt F := by intro _ z; cases z) (hne : ∀ i j, a = .nm i → b = .nm j → i ≠ j := by intro i j z1 z2; cases z1 <;> cases z2 <;> decide) :
    DT X (.Compare e1 [.NotEq] [e2] pos) (tOfE (dEqG true fn a b)) :=
  PT.by (pt_cmpR (op_neO hgd hu hm E.ne E.ic.hm F hr hb pass0) h1 h2 (nomark _)) fun _ _ _ h => ne_read ha hb2 hne (tst_go h)
end
/-- isinstance(x, C), of one's own object or of data -/
def dIsG (i : Nat) : Ex := fun δ => match δ[i]? with
  | some (.bx (.o _) _) => some (.im (.bool true), δ)
  | some (.im _) => some (.im (.bool false), δ)
  | _ => none
section
variable {X : Cx} {x T : Str} {p p2 px pos : Pos}
theorem de_isG (i : Nat) (c : Cls X.K Memo.C) (E : EqC X.K Memo.C) (hg : Gl X "isinstance") (hm : X.mg "isinstance" = none) (hg2 : Gl X T) (hm2 : X.mg T = some (.ref Memo.C)) (hdb : (T == ("__debug__" : Str)) = false := by decide)
    (hN : X.N[i]? = some x := by rfl) (hv : Vis X.env.scope x := by first | exact Or.inl rfl | exact Or.inr (Or.inl rfl) | exact Or.inr (Or.inr rfl)) (hd : (x == ("__debug__" : Str)) = false := by decide) (hcd : (x == ("__classdict__" : Str)) = false := by decide)
    (hs : starEach [.Name x px, .Name T p2] X.env = (false, eval (.Name x px) X.env) :: starEach [.Name T p2] X.env := by rfl) (hs2 : starEach [.Name T p2] X.env = (false, eval (.Name T p2) X.env) :: starEach [] X.env := by rfl)
    (hpl : (backTo pos (starEach [.Name T p2] X.env)).any (·.1) = false := by rfl) : DE X (.Call (.Name "isinstance" p) [.Name x px, .Name T p2] [] pos) (dIsG i) :=
  PE.by (pe_callB call_isi hg hm (by decide +kernel) (pa_cons (pe_var hN hv hd hcd) (pa_cons (pe_glob (v := .ref Memo.C) hg2 hm2 rfl hdb) pa_nil hs2) hs) (he := hs) (hpl := hpl)) fun σ H Q h => by
    obtain ⟨G, δ, r, δ', R, e, q⟩ := h
    unfold dIsG at e
    split at e
    · rename_i fs ds e0
      cases e
      obtain ⟨a, ws, k1, ⟨dx, k2⟩, k3, k4⟩ := R.bx e0
      exact ⟨_, k1, .ref a, .ref Memo.C, _, _, true, rfl, .own _, .base (.ins k2 c E.ic.ha E.ic.hn E.ic.ht E.ic.hm), kit_self, q (.bl true) G H R Stp.refl (Rp.bl true)⟩
    · rename_i d e0
      cases e
      obtain ⟨v, k1, k2⟩ := R.im e0
      obtain ⟨t, ht⟩ : ∃ t, clsE d = some t := by cases d <;> exact ⟨_, rfl⟩
      exact ⟨_, k1, v, .ref Memo.C, _, _, false, rfl, .own _, RT.tyE R.sub (.inl k2) ht, kit_data c E.ty (cls_found ht), q (.bl false) G H R Stp.refl (Rp.bl false)⟩
    · cases e
end
end CK
namespace CK
open PySem PySem.Spec PyProof.Rows L2
mutual
def keyD : PyData → Option NestedKey
  | .int i => some (.num i)
  | .str x => some (.text x)
  | .none => some .none
  | .tuple ds => (keysD ds).bind fun ks => some (.tup ks)
  | .bool _ => Option.none
  | .list _ => Option.none
  | .dict _ => Option.none
def keysD : List PyData → Option (List NestedKey)
  | [] => some []
  | d :: ds => (keyD d).bind fun k => (keysD ds).bind fun ks => some (k :: ks)
end
abbrev MEs := List (NestedKey × Addr × V)
abbrev EPr (p : NestedKey × Addr × V) (q : NestedKey × Addr × Value) : Prop := p.1 = q.1 ∧ p.2.1 = q.2.1 ∧ RelV p.2.2 q.2.2
def Lab (P : Program) (w : World) (a : Addr) (es : MEs) : Heap → Prop := fun h => (a == sysModules) = false ∧ ∃ o ds ep xs, h.get? a = some o ∧ o.ExactDict ∧ o.data = .dict ds ep ∧ ds.toList = xs.map (entryOfKey (nestedKind P w)) ∧ (xs.map (·.1)).Nodup ∧ Paired EPr es xs
theorem nodup_len {α : Type} [DecidableEq α] : ∀ {l m : List α}, l.Nodup → (∀ x ∈ l, x ∈ m) → l.length ≤ m.length
  | [], m, _, _ => Nat.zero_le _
  | a :: l, m, nd, h => by
    obtain ⟨n1, n2⟩ := List.nodup_cons.mp nd
    have ha := h a List.mem_cons_self
    have := nodup_len (l := l) (m := m.erase a) n2 fun x hx => (List.mem_erase_of_ne fun z => n1 (by rw [← z]; exact hx)).mpr (h x (List.mem_cons_of_mem _ hx))
    rw [List.length_erase_of_mem ha] at this
    have : 0 < m.length := List.length_pos_of_mem ha
    rw [List.length_cons]; omega
end CK
namespace CK
open PySem PySem.Spec PyProof.Rows L2
/-- the attributes that hold a dict -/
def mNames : List Str := ["own_rows", "own_whole", "own_below"]
def mFs (x : Inf) (ad : Str → Addr) : List (Str × V) := [("own_places", .int x.pl), ("own_rows", .ref (ad "own_rows")), ("own_whole", .ref (ad "own_whole")), ("own_below", .ref (ad "own_below"))]
abbrev SpT := Inf → Str → PyData → Option PyData
abbrev LiT := Inf → Str → List PyData
section
variable (P : Program) (w : World) (K : PySem.W.Frag) (C : Addr) (W : Addr → Prop) (sp : SpT) (li : LiT)
def Val (G : Hp) (x : Inf) (f : Str) (es : MEs) : Prop := ∀ e ∈ es, ∃ kd d, keyD kd = some e.1 ∧ e.1.depth ≤ 8 ∧ Rp K G (.ref e.2.1) kd ∧ Rp K G e.2.2 d ∧ sp x f kd = some d ∧ kd ∈ li x f
def DicOk (G H : Hp) (x : Inf) (f : Str) (a : Addr) : Prop := ∃ es, H a = some (.ext (Lab P w a es)) ∧ G a = none ∧ Val K sp li G x f es
def MU (G H : Hp) (p : Addr) (x : Inf) : Prop := ∃ dx ad, G p = some (.ins C dx (mFs x ad)) ∧ (∀ f ∈ mNames, ∀ g ∈ mNames, ad f = ad g → f = g) ∧ (∀ f ∈ mNames, W (ad f) ∧ DicOk P w K sp li G H x f (ad f)) ∧ ∀ f ∈ mNames, (li x f).length ≤ sizeLine
theorem Val.same {G G' : Hp} {x : Inf} {f : Str} {es : MEs} (h : Val K sp li G x f es) (s : Same G G') : Val K sp li G' x f es := fun e he => by
  obtain ⟨kd, d, h1, h2, h3, h4, h5⟩ := h e he
  exact ⟨kd, d, h1, h2, h3.same s, h4.same s, h5⟩
theorem MU.mst {G G' H H' : Hp} {p : Addr} {x : Inf} (h : MU P w K C W sp li G H p x) (s : Same G G') (gn : Gn G H G') (st : ∀ a o, H a = some o → ¬ Soft C o → H' a = some o) : MU P w K C W sp li G' H' p x := by
  obtain ⟨dx, ad, h1, h2, h3, h4⟩ := h
  refine ⟨dx, ad, s _ _ h1, h2, fun f hf => ?_, h4⟩
  obtain ⟨w1, es, e1, e0, e2⟩ := h3 f hf
  exact ⟨w1, es, st _ _ e1 soft_ext, gn _ _ e1 e0, e2.same (s := s)⟩
/-- the instance: what the methods of one object may change -/
def memoU : Memo := ⟨C, fun _ _ => True, fun _ _ _ => trivial, W, MU P w K C W sp li, fun h s gn st => MU.mst P w K C W sp li h s gn st, fun h => .inl fun z => by obtain ⟨_, _, h1, _⟩ := h; rw [h1] at z; cases z⟩
instance : Triv (memoU P w K C W sp li) := ⟨fun _ _ => trivial⟩
end
section
variable {mm : Memo} {K : PySem.W.Frag} {G G' H H' Hs : Hp} {σ σ' : SS} {δ δ' : List Sl}
theorem relN (R : @Rel mm K G H σ δ) : @Rel (noW mm) K G H σ δ := by
  cases R with
  | mk a b c d e => exact @Rel.mk (noW mm) K G H σ δ a b c d e
theorem relM (R : @Rel (noW mm) K G H σ δ) : @Rel mm K G H σ δ := by
  cases R with
  | mk a b c d e => exact @Rel.mk mm K G H σ δ a b c d e
theorem stpM (st : @Stp (noW mm) σ δ G H σ' δ' G' H') : @Stp mm σ δ G H σ' δ' G' H' := by
  cases st with
  | mk a b c d => exact @Stp.mk mm σ δ G H σ' δ' G' H' (fun x o e n => ⟨fun _ => (a x o e n).1 fun z => z.2, (a x o e n).2⟩) b c d
theorem rvM {v : V} {r : Sl} (h : @RV (noW mm) K G H Hs σ δ v r) : @RV mm K G H Hs σ δ v r := by
  cases r <;> exact h
end
section
variable [mm : Memo] {X : Cx} {P : List Nat} {p pos px apos : Pos} {x m : Str} {e : Expr} {es : List Expr} {as : List Ag} {k n : Nat} {f : Addr} {fd : FuncData} {ps : List Str} {fn : Fn}
theorem de_callS (hgd : X.A.guards = some []) (F : FnG X.prog X.w X.K X.mg X.base CX0 k f fd ps (@spD (noW mm) X.K n fn)) (hr : Room k X.A) (hg : Gl X x) (hm : X.mg x = some (.ref f)) (hk : PySem.W.keepIn X.K (.ref f) = true)
    (hb : Binds X.K fd ps []) (ha : DA X (e :: es) as) (nd : (agI as).Nodup := by decide) (hn : as.length = n := by rfl) (hdb : (x == ("__debug__" : Str)) = false := by decide)
    (he : starEach (e :: es) X.env = (false, eval e X.env) :: starEach es X.env := by rfl) (hpl : (backTo pos (starEach es X.env)).any (·.1) = false := by rfl) : DE X (.Call (.Name x p) (e :: es) [] pos) (dCall fn as) :=
  PE.by (pe_callG hgd F hr hg hm hk hb pass0 ha hdb he hpl) fun σ H Q h => by
    obtain ⟨G, δ, r, δ', R, e, q⟩ := h
    obtain ⟨⟨ps, δ1⟩, e1, e⟩ := bind_some_of e
    obtain ⟨ss, e2, e⟩ := bind_some_of e
    obtain ⟨⟨r1, ss'⟩, e3, e⟩ := bind_some_of e
    cases e
    exact ⟨G, δ, ps, δ1, R, e1, fun vs G1 H1 R1 st1 aw => @call_core (noW mm) _ _ _ _ _ _ _ _ _ _ _ _ _ _ _ nd hn (relN R1) aw e2 e3 (.inl fun _ z => z) fun v G2 H2 R2 st2 rv => q v G2 H2 (relM R2) (st1.trans (stpM st2)) ((rvM rv).ahead st1)⟩
def moS : Option Sl → Option Inf
  | some (.mo x) => some x
  | _ => none
/-- self.own_places -/
def dMPl (i : Nat) : Ex := fun δ => (moS δ[i]?).bind fun x => some (.im (.int x.pl), δ)
/-- self.m(..) -/
def dMMeth (fn : Fn) (i : Nat) (as : List Ag) : Ex := fun δ => (moS δ[i]?).bind fun _ => dCallM fn (.io i :: as) δ
end
end CK
namespace CK
open PySem PySem.Spec PyProof.Rows L2
variable [mm : Memo]
/-- a tuple that can be a key -/
def keyOk (d : PyData) : Bool := match d with
  | .tuple ds => match keysD ds with
    | some ks => decide ((NestedKey.tup ks).depth ≤ 8)
    | none => false
  | _ => false
open Classical in
/-- if k not in self.f: B; self.f[k] = F -- return self.f[k] -/
noncomputable def sMemo (sp : SpT) (li : LiT) (i k : Nat) (f : Str) (B : Sm) (F : Ex) : Sm := fun δ => (moS δ[i]?).bind fun x => (rdN δ k).bind fun kd => if kd ∈ li x f ∧ keyOk kd = true then
    (B δ).bind fun y => (match y.1 with | .nx => some () | _ => none).bind fun _ => (F y.2).bind fun z => z.1.sh.bind fun d =>
      if sp x f kd = some d ∧ moS z.2[i]? = some x ∧ rdN z.2 k = some kd ∧ z.2.length = δ.length then some (.rt (.im d), (List.replicate z.2.length Sl.no).set i (.mo x)) else none
  else none
section
variable {K : PySem.W.Frag} {P : Program} {w : World} {G H : Hp} {sp : SpT} {li : LiT} {x : Inf} {f : Str} {es : MEs}
theorem Val.len (h : Val K sp li G x f es) (nd : (es.map (·.1)).Nodup) : es.length ≤ (li x f).length := by
  have h1 : (es.map (·.1)).length ≤ ((li x f).filterMap keyD).length := nodup_len nd fun k hk => by
    obtain ⟨e, he, rfl⟩ := List.mem_map.mp hk
    obtain ⟨kd, d, h1, _, _, _, _, h5⟩ := h e he
    exact List.mem_filterMap.mpr ⟨kd, h5, h1⟩
  rw [List.length_map] at h1
  exact Nat.le_trans h1 (List.length_filterMap_le _ _)
end
end CK
namespace CK
open PySem PySem.Spec PyProof.Rows L2
/-- no object is told of that remembers -/
class NoM (m : Memo) : Prop where
  no : ∀ G H p x, ¬ m.M G H p x
instance (C : Addr) : NoM (plainAt C) := ⟨fun _ _ _ _ z => z⟩
def infOf (n : Int) : List Sl → Inf
  | _ :: .im a :: .im b :: _ => ⟨n, a, b⟩
  | _ => ⟨n, .none, .none⟩
def imS : Sl → Option PyData
  | .im d => some d
  | _ => none
def allIm (ss : List Sl) : Bool := ss.all fun s => match s with | .im _ => true | _ => false
open Classical in
noncomputable def dUnl (li : LiT) (mW : Fn) (F : Ex) (as : List Ag) : Ex := fun δ => (F δ).bind fun x => (intOf x.1).bind fun n => (agE as x.2).bind fun y => (agS as y.1 y.2).bind fun ss =>
  if allIm ss = true ∧ agI as = [] ∧ ∀ f ∈ mNames, (li (infOf n ss) f).length ≤ sizeLine then (mW (.mo (infOf n ss) :: ss)).bind fun z => (imS z.1).bind fun d => some (.im d, y.2) else none
section
variable {K : PySem.W.Frag} {G H H' : Hp} {σ : SS} {δ : List Sl}
/-- more objects -/
theorem Rel.more [mm : Memo] [Triv mm] (R : Rel K G H σ δ) (k : ∀ b o, H b = some o → H' b = some o) : Rel K G H' σ δ :=
  ⟨fun b o e => k _ _ (R.sub _ _ e), R.len, fun i s e => (R.slot i s e).same (Same.refl _) (fun p t ws ds _ h1 h2 _ => by
    obtain ⟨o, e1, _, kb⟩ := h1.at
    exact ⟨kb _ (k _ _ e1), h2⟩) (mSt (Same.refl _) gn_refl fun a o e _ => k _ _ e), R.inj, Triv.all _ _⟩
theorem Stp.more [mm : Memo] (k : ∀ b o, H b = some o → H' b = some o) : Stp σ δ G H σ δ G H' :=
  ⟨fun b o e n => ⟨fun _ => k _ _ e, n⟩, (fun b e => by
    cases h : H b with
    | none => rfl
    | some o => rw [k _ _ h] at e; cases e), Same.refl _, fun _ _ e => .inl e⟩
end
/-- a method, __init__, by the class's address -/
structure MEntC (C : Addr) (K : PySem.W.Frag) (m qual : Str) (st : Stmt) (ps : List Str) where
  f : Addr
  fd : FuncData
  fn : Fun K m qual st f fd
  mt : Meth K C m f
  bd : Binds K fd ps []
structure IEntC (C : Addr) (K : PySem.W.Frag) (m qual : Str) (st : Stmt) (ps : List Str) where
  f : Addr
  fd : FuncData
  fn : Fun K m qual st f fd
  make : Mk K C f
  bd : Binds K fd ps []
end CK
namespace CK
open PySem L2
/-- plain forms, for the proofs -/
def Ev0 {α : Type} (o : Option α) (Q : α → Prop) : Prop := ∃ a, o = some a ∧ Q a
def Br0 (c P Q : Prop) : Prop := (c → P) ∧ (¬c → Q)
def Gd0 (c P : Prop) : Prop := c ∧ P
section
variable {α β : Type} {Q : α → Prop} {R : β → Prop} {P P' c : Prop}
theorem x_bind (o : Option β) (f : β → Option α) : Ev0 (o.bind f) Q = Ev0 o fun a => Ev0 (f a) Q := by
  cases o with
  | none => exact propext ⟨fun ⟨_, e, _⟩ => (nomatch e), fun ⟨_, e, _⟩ => (nomatch e)⟩
  | some a => exact propext ⟨fun h => ⟨a, rfl, h⟩, fun ⟨b, e, h⟩ => by cases e; exact h⟩
theorem x_some (a : α) : Ev0 (some a) Q = Q a := propext ⟨fun ⟨b, e, h⟩ => by cases e; exact h, fun h => ⟨a, rfl, h⟩⟩
theorem x_none : Ev0 (none : Option α) Q = False := propext ⟨fun ⟨_, e, _⟩ => (nomatch e), fun h => h.elim⟩
theorem x_ite [Decidable c] (x y : Option α) : Ev0 (if c then x else y) Q = Br0 c (Ev0 x Q) (Ev0 y Q) := by
  by_cases h : c
  · rw [if_pos h]; exact propext ⟨fun g => ⟨fun _ => g, fun n => (n h).elim⟩, fun g => g.1 h⟩
  · rw [if_neg h]; exact propext ⟨fun g => ⟨fun n => (h n).elim, fun _ => g⟩, fun g => g.2 h⟩
theorem x_gd [Decidable c] (x : Option α) : Ev0 (if c then x else none) Q = Gd0 c (Ev0 x Q) := by
  rw [x_ite, x_none]
  exact propext ⟨fun g => (Classical.em c).elim (fun h => ⟨h, g.1 h⟩) fun h => (g.2 h).elim, fun g => ⟨fun _ => g.2, fun h => (h g.1).elim⟩⟩
end
/-- what stays closed to simp -/
structure Tag {α : Type} (Q : α → Prop) : Type where
structure Tag2 (P Q : Prop) : Type where
/-- comes to a result that .. -/
def Ev {α : Type} (o : Option α) (Q : α → Prop) (_ : Tag Q := {}) : Prop := ∃ a, o = some a ∧ Q a
def Br (c P Q : Prop) (_ : Tag2 P Q := {}) : Prop := (c → P) ∧ (¬c → Q)
def Gd (c P : Prop) (_ : Tag2 P P := {}) : Prop := c ∧ P
theorem e0 {α : Type} (o : Option α) (Q : α → Prop) : Ev o Q = Ev0 o Q := rfl
theorem b0 (c P Q : Prop) : Br c P Q = Br0 c P Q := rfl
theorem g0 (c P : Prop) : Gd c P = Gd0 c P := rfl
section
variable {α β : Type} {Q : α → Prop} {R : β → Prop} {P P' c : Prop}
theorem Ev.mono {o : Option α} {Q' : α → Prop} (h : Ev o Q) (w : ∀ a, Q a → Q' a) : Ev o Q' := by
  obtain ⟨a, e, q⟩ := h
  exact ⟨a, e, w a q⟩
theorem ev_bind (o : Option β) (f : β → Option α) : Ev (o.bind f) Q = Ev o fun a => Ev (f a) Q := x_bind o f
theorem ev_some (a : α) : Ev (some a) Q = Q a := x_some a
theorem ev_none : Ev (none : Option α) Q = False := x_none
theorem ev_ite [Decidable c] (x y : Option α) : Ev (if c then x else y) Q = Br c (Ev x Q) (Ev y Q) := x_ite x y
theorem ev_gd [Decidable c] (x : Option α) : Ev (if c then x else none) Q = Gd c (Ev x Q) := x_gd x
theorem br_true : Br True P P' = P := propext ⟨fun h => h.1 trivial, fun h => ⟨fun _ => h, fun g => (g trivial).elim⟩⟩
theorem br_false : Br False P P' = P' := propext ⟨fun h => h.2 id, fun h => ⟨fun g => g.elim, fun _ => h⟩⟩
theorem gd_true : Gd True P = P := propext ⟨fun h => h.2, fun h => ⟨trivial, h⟩⟩
theorem br_pos (h : c) (g : P) : Br c P P' := ⟨fun _ => g, fun n => (n h).elim⟩
theorem br_neg (h : ¬c) (g : P') : Br c P P' := ⟨fun n => (h n).elim, fun _ => g⟩
theorem br_mk (h : c → P) (g : ¬c → P') : Br c P P' := ⟨h, g⟩
theorem gd_mk (h : c) (g : P) : Gd c P := ⟨h, g⟩
/-- out of an equation -/
theorem Ev.of {o : Option α} {a : α} (h : o = some a) (q : Q a) : Ev o Q := ⟨a, h, q⟩
theorem Ev.eq {o : Option α} {a : α} (h : Ev o fun x => x = a) : o = some a := by obtain ⟨b, e, rfl⟩ := h; exact e
def rdS : Option Sl → Option PyData
  | some (.im d) => some d
  | some (.bx .l ds) => some (.list ds)
  | _ => none
theorem ev_rdN (δ : List Sl) (i : Nat) {Q : PyData → Prop} : Ev (rdN δ i) Q = Ev (rdS δ[i]?) Q := by
  unfold rdN rdS; rfl
theorem rdS_im (d : PyData) : rdS (some (.im d)) = some d := rfl
theorem rdS_ow (d : List PyData) : rdS (some (.bx .l d)) = some (.list d) := rfl
def dNS (i : Nat) (δ : List Sl) : Option Sl → Option (Sl × List Sl)
  | some (.im d) => some (.im d, δ)
  | some (.bx .l ds) => some (.im (.list ds), δ.set i (.im (.list ds)))
  | some (.fz ds) => some (.fz ds, δ)
  | some (.raw v) => some (.raw v, δ)
  | _ => none
theorem ev_dN (i : Nat) (δ : List Sl) {Q : Sl × List Sl → Prop} : Ev (dN i δ) Q = Ev (dNS i δ δ[i]?) Q := by
  unfold dN dNS; rfl
theorem dNS_im (i : Nat) (δ : List Sl) (d : PyData) : dNS i δ (some (.im d)) = some (.im d, δ) := rfl
theorem dNS_ow (i : Nat) (δ : List Sl) (d : List PyData) : dNS i δ (some (.bx .l d)) = some (.im (.list d), δ.set i (.im (.list d))) := rfl
theorem dNS_fz (i : Nat) (δ : List Sl) (d : List PyData) : dNS i δ (some (.fz d)) = some (.fz d, δ) := rfl
theorem dNS_raw (i : Nat) (δ : List Sl) (d : V) : dNS i δ (some (.raw d)) = some (.raw d, δ) := rfl
theorem ev_dC (d : PyData) (δ : List Sl) {Q : Sl × List Sl → Prop} : Ev (dC d δ) Q = Q (.im d, δ) := x_some _
theorem ev_dRaw (d : V) (δ : List Sl) {Q : Sl × List Sl → Prop} : Ev (dRaw d δ) Q = Q (.raw d, δ) := x_some _
theorem sh_im (d : PyData) : Sl.sh (.im d) = some d := rfl
theorem sh_ow (d : List PyData) : Sl.sh (.bx .l d) = some (.list d) := rfl
theorem arg_im (d : PyData) : Sl.arg (.im d) = some (.im d) := rfl
theorem arg_ow (d : List PyData) : Sl.arg (.bx .l d) = some (.im (.list d)) := rfl
theorem arg_fz (d : List PyData) : Sl.arg (.fz d) = some (.fz d) := rfl
theorem arg_raw (d : V) : Sl.arg (.raw d) = some (.raw d) := rfl
theorem bool_bl (b : Bool) : Sl.bool (.im (.bool b)) = some b := rfl
theorem intOf_int (i : Int) : intOf (.im (.int i)) = some i := rfl
variable {S S' : Sl × List Sl → Prop} {δ : List Sl}
theorem ev_op1n (f : PyData → Option Sl) (i : Nat) : Ev (dOp1 f (.nm i) δ) S = Ev (rdN δ i) fun d => Ev (f d) fun r => S (r, δ) := by
  simp only [e0, b0, g0, dOp1, Od.fst, Od.snd, x_bind, x_some]
  cases rdN δ i <;> simp only [e0, b0, g0, x_none, x_some]
theorem ev_op1e (f : PyData → Option Sl) (F : Ex) : Ev (dOp1 f (.ex F) δ) S = Ev (F δ) fun x => Ev x.1.sh fun d => Ev (f d) fun r => S (r, x.2) := by
  simp only [e0, b0, g0, dOp1, Od.fst, Od.snd, x_bind, x_some]
theorem ev_op2nn (f : PyData → PyData → Option Sl) (i j : Nat) : Ev (dOp2 f (.nm i) (.nm j) δ) S = Ev (rdN δ i) fun d => Ev (rdN δ j) fun e => Ev (f d e) fun r => S (r, δ) := by
  simp only [e0, b0, g0, dOp2, Od.fst, Od.snd, x_bind, x_some]
  cases rdN δ i <;> simp only [e0, b0, g0, x_none, x_some]
  cases rdN δ j <;> simp only [e0, b0, g0, x_none, x_some]
theorem ev_op2ne (f : PyData → PyData → Option Sl) (i : Nat) (F : Ex) : Ev (dOp2 f (.nm i) (.ex F) δ) S = Ev (rdN δ i) fun _ => Ev (F δ) fun y => Ev y.1.sh fun e => Ev (rdN y.2 i) fun d => Ev (f d e) fun r => S (r, y.2) := by
  simp only [e0, b0, g0, dOp2, Od.fst, Od.snd, x_bind, x_some]
theorem ev_op2en (f : PyData → PyData → Option Sl) (F : Ex) (j : Nat) : Ev (dOp2 f (.ex F) (.nm j) δ) S = Ev (F δ) fun x => Ev x.1.sh fun d => Ev (rdN x.2 j) fun e => Ev (f d e) fun r => S (r, x.2) := by
  simp only [e0, b0, g0, dOp2, Od.fst, Od.snd, x_bind, x_some]
  refine congrArg _ (funext fun x => congrArg _ (funext fun d => ?_))
  cases rdN x.2 j <;> simp only [e0, b0, g0, x_none, x_some]
theorem ev_op2ee (f : PyData → PyData → Option Sl) (F G : Ex) : Ev (dOp2 f (.ex F) (.ex G) δ) S = Ev (F δ) fun x => Ev x.1.sh fun d => Ev (G x.2) fun y => Ev y.1.sh fun e => Ev (f d e) fun r => S (r, y.2) := by
  simp only [e0, b0, g0, dOp2, Od.fst, Od.snd, x_bind, x_some]
variable {T : Bool × List Sl → Prop}
theorem ev_tOfE (F : Ex) : Ev (tOfE F δ) T = Ev (F δ) fun x => Ev x.1.bool fun b => T (b, x.2) := by simp only [e0, b0, g0, tOfE, x_bind, x_some]
theorem ev_tTrue : Ev (tTrue δ) T = T (true, δ) := x_some _
theorem ev_tAnd (f g : Tt) : Ev (tAndD f g δ) T = Ev (f δ) fun x => Br (x.1 = true) (Ev (g x.2) T) (T (false, x.2)) := by simp only [e0, b0, g0, tAndD, x_bind, x_ite, x_some]
theorem ev_tOr (f g : Tt) : Ev (tOrD f g δ) T = Ev (f δ) fun x => Br (x.1 = true) (T (true, x.2)) (Ev (g x.2) T) := by simp only [e0, b0, g0, tOrD, x_bind, x_ite, x_some]
theorem ev_tNot (f : Tt) : Ev (tNotD f δ) T = Ev (f δ) fun x => T (!x.1, x.2) := by simp only [e0, b0, g0, tNotD, x_bind, x_some]
theorem ev_eOfT (f : Tt) : Ev (eOfT f δ) S = Ev (f δ) fun x => S (.im (.bool x.1), x.2) := by simp only [e0, b0, g0, eOfT, x_bind, x_some]
theorem ev_dIfE (c : Tt) (f g : Ex) : Ev (dIfE c f g δ) S = Ev (c δ) fun x => Br (x.1 = true) (Ev (f x.2) S) (Ev (g x.2) S) := by simp only [e0, b0, g0, dIfE, x_bind, x_ite]
theorem ev_dAnd (f g : Ex) : Ev (dAnd f g δ) S = Ev (f δ) fun x => Ev x.1.bool fun c => Br (c = true) (Ev (g x.2) S) (S (.im (.bool false), x.2)) := by simp only [e0, b0, g0, dAnd, x_bind, x_ite, x_some]
theorem ev_dOr (f g : Ex) : Ev (dOr f g δ) S = Ev (f δ) fun x => Ev x.1.bool fun c => Br (c = true) (S (.im (.bool true), x.2)) (Ev (g x.2) S) := by simp only [e0, b0, g0, dOr, x_bind, x_ite, x_some]
theorem ev_dNot (f : Ex) : Ev (dNot f δ) S = Ev (f δ) fun x => Ev x.1.bool fun c => S (.im (.bool (!c)), x.2) := by simp only [e0, b0, g0, dNot, x_bind, x_some]
theorem ev_dCh (f g : Int → Int → Bool) (a b c : Ex) : Ev (dCh f g a b c δ) S = Ev (a δ) fun x => Ev (intOf x.1) fun i => Ev (b x.2) fun y => Ev (intOf y.1) fun j => Br (f i j = true) (Ev (c y.2) fun z => Ev (intOf z.1) fun k => S (.im (.bool (g j k)), z.2)) (S (.im (.bool false), y.2)) := by
  simp only [e0, b0, g0, dCh, x_bind, x_ite, x_some]
variable {U : Fl × List Sl → Prop}
def KSeq (T : Sm) (U : Fl × List Sl → Prop) : Fl → List Sl → Prop
  | .nx, δ => Ev (T δ) U
  | f, δ => U (f, δ)
theorem ev_sSeq (A B : Sm) : Ev (sSeq A B δ) U = Ev (A δ) fun x => KSeq B U x.1 x.2 := by
  simp only [e0, b0, g0, sSeq, x_bind]
  refine congrArg _ (funext fun x => ?_)
  obtain ⟨f, d⟩ := x
  cases f <;> simp only [e0, b0, g0, KSeq, x_some]
theorem kseq_nx (B : Sm) : KSeq B U .nx δ = Ev (B δ) U := rfl
theorem kseq_rt (B : Sm) (r : Sl) : KSeq B U (.rt r) δ = U (.rt r, δ) := rfl
theorem kseq_bk (B : Sm) : KSeq B U .bk δ = U (.bk, δ) := rfl
theorem kseq_ct (B : Sm) : KSeq B U .ct δ = U (.ct, δ) := rfl
theorem ev_sNext : Ev (sNext δ) U = U (.nx, δ) := x_some _
theorem ev_sBrk : Ev (sBrk δ) U = U (.bk, δ) := x_some _
theorem ev_sCt : Ev (sCt δ) U = U (.ct, δ) := x_some _
theorem ev_sStuck : Ev (sStuck δ) U = False := x_none
theorem ev_sExpr (F : Ex) : Ev (sExpr F δ) U = Ev (F δ) fun x => U (.nx, x.2) := by simp only [e0, b0, g0, sExpr, x_bind, x_some]
theorem ev_sRet (F : Ex) : Ev (sRet F δ) U = Ev (F δ) fun x => U (.rt x.1, x.2) := by simp only [e0, b0, g0, sRet, x_bind, x_some]
theorem ev_sSet (i : Nat) (F : Ex) : Ev (sSet i F δ) U = Ev (F δ) fun x => U (.nx, x.2.set i x.1) := by simp only [e0, b0, g0, sSet, x_bind, x_some]
theorem ev_sIf (c : Tt) (A B : Sm) : Ev (sIf c A B δ) U = Ev (c δ) fun x => Br (x.1 = true) (Ev (A x.2) U) (Ev (B x.2) U) := by simp only [e0, b0, g0, sIf, x_bind, x_ite]
theorem ev_sAsg (t : Tg) (F : Ex) : Ev (sAsg t F δ) U = Ev (F δ) fun x => Ev x.1.sh fun d => Ev (t d x.2) fun δ1 => U (.nx, δ1) := by simp only [e0, b0, g0, sAsg, x_bind, x_some]
theorem ev_sPar (i j : Nat) (F1 F2 : Ex) : Ev (sPar i j F1 F2 δ) U = Ev (F1 δ) fun x => Ev (F2 x.2) fun y => U (.nx, (y.2.set i x.1).set j y.1) := by simp only [e0, b0, g0, sPar, x_bind, x_some]
theorem ev_sPar3 (i j l : Nat) (F1 F2 F3 : Ex) : Ev (sPar3 i j l F1 F2 F3 δ) U = Ev (F1 δ) fun x => Ev (F2 x.2) fun y => Ev (F3 y.2) fun z => U (.nx, ((z.2.set i x.1).set j y.1).set l z.1) := by simp only [e0, b0, g0, sPar3, x_bind, x_some]
def retS (i : Nat) (δ : List Sl) : Option Sl → Option (Fl × List Sl)
  | some (.im d) => some (.rt (.im d), δ)
  | some (.bx t ds) => some (.rt (.bx t ds), δ.set i .no)
  | some (.fz ds) => some (.rt (.fz ds), δ)
  | some (.raw v) => some (.rt (.raw v), δ)
  | _ => none
theorem ev_sRetV (i : Nat) : Ev (sRetV i δ) U = Ev (retS i δ δ[i]?) U := by
  unfold sRetV sRet dN
  generalize δ[i]? = o
  match o with
  | none => rfl
  | some .no => rfl
  | some (.im _) => rfl
  | some (.bx _ _) => rfl
  | some (.fz _) => rfl
  | some (.raw _) => rfl
  | some (.mo _) => rfl
theorem retS_im (i : Nat) (d : PyData) : retS i δ (some (.im d)) = some (.rt (.im d), δ) := rfl
theorem retS_ow (i : Nat) (t : Bt) (d : List PyData) : retS i δ (some (.bx t d)) = some (.rt (.bx t d), δ.set i .no) := rfl
theorem retS_fz (i : Nat) (d : List PyData) : retS i δ (some (.fz d)) = some (.rt (.fz d), δ) := rfl
theorem retS_raw (i : Nat) (d : V) : retS i δ (some (.raw d)) = some (.rt (.raw d), δ) := rfl
variable {W : List Sl → Prop}
theorem ev_tgN (i : Nat) (d : PyData) : Ev (tgN i d δ) W = W (δ.set i (.im d)) := x_some _
theorem ev_tgT (t : List PyData → List Sl → Option (List Sl)) (ds : List PyData) : Ev (tgT t (.tuple ds) δ) W = Ev (t ds δ) W := rfl
theorem ev_tgNil : Ev (tgNil [] δ) W = W δ := x_some _
theorem ev_tgCons (t : Tg) (u : List PyData → List Sl → Option (List Sl)) (d : PyData) (ds : List PyData) : Ev (tgCons t u (d :: ds) δ) W = Ev (t d δ) fun δ1 => Ev (u ds δ1) W := by simp only [e0, b0, g0, tgCons, x_bind]
def kRet (P : List Nat) (as : List Sl) (S : Sl × List Sl → Prop) : Fl → List Sl → Prop
  | .rt r, δ => Gd (okR P δ r = true) (Ev (back P 0 as δ) fun b => S (r, b))
  | .nx, δ => Ev (back P 0 as δ) fun b => S (.im .none, b)
  | _, _ => False
theorem ev_fnD (P : List Nat) (m : Nat) (A : Sm) (as : List Sl) : Ev (fnD P m A as) S = Ev (A (as ++ List.replicate m .no)) fun x => kRet P as S x.1 x.2 := by
  simp only [e0, b0, g0, fnD, x_bind]
  refine congrArg _ (funext fun x => ?_)
  obtain ⟨f, d⟩ := x
  cases f <;> simp only [kRet, e0, b0, g0, x_bind, x_some, x_none, x_gd]
  exact propext ⟨fun h => h.2, fun h => ⟨rfl, h⟩⟩
theorem kRet_rt (P : List Nat) (as : List Sl) (r : Sl) : kRet P as S (.rt r) δ = Gd (okR P δ r = true) (Ev (back P 0 as δ) fun b => S (r, b)) := rfl
theorem kRet_nx (P : List Nat) (as : List Sl) : kRet P as S .nx δ = Ev (back P 0 as δ) fun b => S (.im .none, b) := rfl
theorem okR_im (P : List Nat) (d : PyData) : okR P δ (.im d) = true := rfl
theorem okR_fz (P : List Nat) (d : List PyData) : okR P δ (.fz d) = true := rfl
theorem okR_raw (P : List Nat) (d : V) : okR P δ (.raw d) = true := rfl
theorem okR_ow (P : List Nat) (t : Bt) (d : List PyData) : okR P δ (.bx t d) = P.all fun i => isOw δ[i]? := rfl
theorem isOw_ow (t : Bt) (d : List PyData) : isOw (some (.bx t d)) = true := rfl
theorem isOw_mo (x : Inf) : isOw (some (.mo x)) = true := rfl
theorem back_nil (P : List Nat) (i : Nat) (ds : List Sl) : Ev (back P i [] ds) W = W [] := x_some _
def bkS : Sl → Option Sl
  | .no => none | .bx _ _ => none | .mo _ => none | a => some a
theorem back_cons (P : List Nat) (i : Nat) (a d : Sl) (as ds : List Sl) : Ev (back P i (a :: as) (d :: ds)) W = Br (P.contains i = true) (Ev (back P (i + 1) as ds) fun r => W (d :: r)) (Ev (bkS a) fun a => Ev (back P (i + 1) as ds) fun r => W (a :: r)) := by
  simp only [e0, b0, g0, back, x_ite, x_bind, x_some]
  cases a <;> simp only [bkS, x_none, x_some]
theorem bkS_im (d : PyData) : bkS (.im d) = some (.im d) := rfl
theorem bkS_fz (d : List PyData) : bkS (.fz d) = some (.fz d) := rfl
theorem bkS_raw (d : V) : bkS (.raw d) = some (.raw d) := rfl
theorem ev_dCall (f : Fn) (as : List Ag) : Ev (dCall f as δ) S = Ev (agE as δ) fun x => Ev (agS as x.1 x.2) fun ss => Ev (f ss) fun y => S (y.1, agB as y.2 x.2) := by simp only [e0, b0, g0, dCall, x_bind, x_some]
variable {Z : List (Option Sl) × List Sl → Prop}
def owS : Option Sl → Option (List PyData)
  | some (.bx .l ds) => some ds
  | _ => none
theorem owS_ow (ds : List PyData) : owS (some (.bx .l ds)) = some ds := rfl
def ioS : Option Sl → Option Sl
  | some (.bx t ds) => some (.bx t ds)
  | some (.mo x) => some (.mo x)
  | _ => none
theorem ioS_bx (t : Bt) (ds : List PyData) : ioS (some (.bx t ds)) = some (.bx t ds) := rfl
theorem ioS_mo (x : Inf) : ioS (some (.mo x)) = some (.mo x) := rfl
theorem ev_agNil : Ev (agE [] δ) Z = Z ([], δ) := x_some _
theorem ev_agIo (i : Nat) (r : List Ag) : Ev (agE (.io i :: r) δ) Z = Ev (ioS δ[i]?) fun _ => Ev (agE r δ) fun x => Z (none :: x.1, x.2) := by
  simp only [e0, b0, g0, agE, x_bind, x_some]
  generalize δ[i]? = o
  match o with
  | none => simp only [e0, b0, g0, ioS, x_none]
  | some .no => simp only [e0, b0, g0, ioS, x_none]
  | some (.im _) => simp only [e0, b0, g0, ioS, x_none]
  | some (.bx _ _) => simp only [e0, b0, g0, ioS, x_some]
  | some (.fz _) => simp only [e0, b0, g0, ioS, x_none]
  | some (.raw _) => simp only [e0, b0, g0, ioS, x_none]
  | some (.mo _) => simp only [e0, b0, g0, ioS, x_some]
theorem ev_agEx (F : Ex) (r : List Ag) : Ev (agE (.ex F :: r) δ) Z = Ev (F δ) fun x => Ev x.1.arg fun s => Ev (agE r x.2) fun y => Z (some s :: y.1, y.2) := by simp only [e0, b0, g0, agE, x_bind, x_some]
theorem ev_agSNil : Ev (agS [] [] δ) W = W [] := x_some _
theorem ev_agSIo (i : Nat) (r : List Ag) (ps : List (Option Sl)) : Ev (agS (.io i :: r) (none :: ps) δ) W = Ev (ioS δ[i]?) fun s => Ev (agS r ps δ) fun t => W (s :: t) := by
  simp only [e0, b0, g0, agS, x_bind, x_some]
  generalize δ[i]? = o
  match o with
  | none => simp only [e0, b0, g0, ioS, x_none]
  | some .no => simp only [e0, b0, g0, ioS, x_none]
  | some (.im _) => simp only [e0, b0, g0, ioS, x_none]
  | some (.bx _ _) => simp only [e0, b0, g0, ioS, x_some]
  | some (.fz _) => simp only [e0, b0, g0, ioS, x_none]
  | some (.raw _) => simp only [e0, b0, g0, ioS, x_none]
  | some (.mo _) => simp only [e0, b0, g0, ioS, x_some]
theorem ev_agSEx (F : Ex) (r : List Ag) (s : Sl) (ps : List (Option Sl)) : Ev (agS (.ex F :: r) (some s :: ps) δ) W = Ev (agS r ps δ) fun t => W (s :: t) := by simp only [e0, b0, g0, agS, x_bind, x_some]
theorem agB_io (i : Nat) (r : List Ag) (s : Sl) (ss : List Sl) : agB (.io i :: r) (s :: ss) δ = agB r ss (δ.set i s) := rfl
theorem agB_ex (F : Ex) (r : List Ag) (s : Sl) (ss : List Sl) : agB (.ex F :: r) (s :: ss) δ = agB r ss δ := rfl
theorem agB_nil : agB [] [] δ = δ := rfl
/-- a call under its parameters' names, all of them given in order of `ix` -/
def allPlain (ss : List Sl) : Bool := ss.all fun s => match s with | .bx _ _ => false | .no => false | _ => true
def noOw (ss : List Sl) : Bool := ss.all fun s => match s with | .bx _ _ => false | _ => true
theorem ev_fnP (ix : List Nat) (f : Fn) (ss : List Sl) : Ev (fnP ix f ss) S = Gd (ix.length = ss.length ∧ (∀ i ∈ ix, i < ss.length) ∧ allPlain ss = true) (Ev (f (ix.filterMap fun i => ss[i]?)) fun y => Gd (noOw y.2 = true) (S (y.1, ss))) := by
  simp only [e0, b0, g0]
  unfold fnP allPlain noOw
  rw [x_gd, x_bind]
  simp only [e0, b0, g0, x_gd, x_some]
  all_goals rfl
variable {Y : List PyData × List Sl → Prop}
theorem ev_elNil : Ev (elE [] δ) Y = Y ([], δ) := x_some _
theorem ev_elOne (F : Ex) (r : List El) : Ev (elE (.one F :: r) δ) Y = Ev (F δ) fun x => Ev x.1.sh fun d => Ev (elE r x.2) fun y => Y (d :: y.1, y.2) := by simp only [e0, b0, g0, elE, x_bind, x_some]
def itemsD : PyData → Option (List PyData)
  | .list ds => some ds
  | .tuple ds => some ds
  | _ => none
theorem itemsD_l (ds : List PyData) : itemsD (.list ds) = some ds := rfl
theorem itemsD_t (ds : List PyData) : itemsD (.tuple ds) = some ds := rfl
theorem ev_elStar (F : Ex) (r : List El) : Ev (elE (.star F :: r) δ) Y = Ev (F δ) fun x => Ev x.1.sh fun d => Ev (itemsD d) fun ds => Ev (elE r x.2) fun y => Y (ds ++ y.1, y.2) := by
  simp only [e0, b0, g0, elE, x_bind, x_some]
  refine congrArg _ (funext fun x => congrArg _ (funext fun d => ?_))
  cases d <;> simp only [e0, b0, g0, itemsD, x_none, x_some]
theorem ev_dLst (as : List El) : Ev (dLst as δ) S = Ev (elE as δ) fun x => Gd (x.1.length ≤ LINE) (S (.bx .l x.1, x.2)) := by simp only [e0, b0, g0, dLst, x_bind, x_gd, x_some]
theorem ev_dTup (as : List El) : Ev (dTup as δ) S = Ev (elE as δ) fun x => Gd (x.1.length ≤ LINE) (S (.im (.tuple x.1), x.2)) := by simp only [e0, b0, g0, dTup, x_bind, x_gd, x_some]
def fzS : Option Sl → Option (List PyData)
  | some (.fz ds) => some ds
  | _ => none
theorem fzS_fz (ds : List PyData) : fzS (some (.fz ds)) = some ds := rfl
theorem ev_dLenF (i : Nat) : Ev (dLenF i δ) S = Ev (fzS δ[i]?) fun ds => S (.im (.int ds.length), δ) := by
  unfold dLenF
  generalize δ[i]? = o
  match o with
  | none => simp only [e0, b0, g0, fzS, x_none]
  | some .no => simp only [e0, b0, g0, fzS, x_none]
  | some (.im _) => simp only [e0, b0, g0, fzS, x_none]
  | some (.bx _ _) => simp only [e0, b0, g0, fzS, x_none]
  | some (.fz _) => simp only [e0, b0, g0, fzS, x_some]
  | some (.raw _) => simp only [e0, b0, g0, fzS, x_none]
  | some (.mo _) => simp only [e0, b0, g0, fzS, x_none]
theorem ev_dIxF (i : Nat) (F : Ex) : Ev (dIxF i F δ) S = Ev (fzS δ[i]?) fun ds => Ev (F δ) fun x => Ev (intOf x.1) fun j => Ev (fzS x.2[i]?) fun _ => Ev (atI ds j) fun d => S (.im d, x.2) := by
  simp only [e0, b0, g0]
  unfold dIxF
  rw [x_bind]
  show Ev0 (fzS δ[i]?) _ = _
  simp only [e0, b0, g0, x_bind, x_some]
  refine congrArg _ (funext fun ds => congrArg _ (funext fun x => congrArg _ (funext fun j => ?_)))
  generalize x.2[i]? = o
  match o with
  | none => simp only [e0, b0, g0, fzS, x_none]
  | some .no => simp only [e0, b0, g0, fzS, x_none]
  | some (.im _) => simp only [e0, b0, g0, fzS, x_none]
  | some (.bx _ _) => simp only [e0, b0, g0, fzS, x_none]
  | some (.fz _) => simp only [e0, b0, g0, fzS, x_some]
  | some (.raw _) => simp only [e0, b0, g0, fzS, x_none]
  | some (.mo _) => simp only [e0, b0, g0, fzS, x_none]
theorem ev_dSlF (i : Nat) (lo hi : Option Ex) : Ev (dSlF i lo hi δ) S = Ev (fzS δ[i]?) fun ds => Ev (prt lo δ) fun l => Ev (prt hi l.2) fun h => S (.bx .l (cutD ds l.1 h.1), h.2) := by
  simp only [e0, b0, g0]
  unfold dSlF
  rw [x_bind]
  show Ev0 (fzS δ[i]?) _ = _
  simp only [e0, b0, g0, x_bind, x_some]
variable {O : Option Int × List Sl → Prop}
theorem ev_prtN : Ev (prt none δ) O = O (none, δ) := x_some _
theorem ev_prtS (F : Ex) : Ev (prt (some F) δ) O = Ev (F δ) fun x => Ev (intOf x.1) fun j => O (some j, x.2) := by simp only [e0, b0, g0, prt, x_bind, x_some]
theorem ev_dSlN (i : Nat) (lo hi : Option Ex) : Ev (dSl (.nm i) lo hi δ) S = Ev (rdN δ i) fun _ => Ev (prt lo δ) fun l => Ev (prt hi l.2) fun h => Ev (rdN h.2 i) fun d => Ev (slD l.1 h.1 d) fun r => S (r, h.2) := by
  simp only [e0, b0, g0, dSl, Od.fst, Od.snd, x_bind, x_some]
theorem ev_dSlE (F : Ex) (lo hi : Option Ex) : Ev (dSl (.ex F) lo hi δ) S = Ev (F δ) fun x => Ev x.1.sh fun d => Ev (prt lo x.2) fun l => Ev (prt hi l.2) fun h => Ev (slD l.1 h.1 d) fun r => S (r, h.2) := by
  simp only [e0, b0, g0, dSl, Od.fst, Od.snd, x_bind, x_some]
theorem x_owBind {α : Type} (o : Option Sl) (f : Unit → Option α) {Q : α → Prop} : Ev0 ((match o with | some (.bx .l _) => some () | _ => none).bind f) Q = Ev0 (owS o) fun _ => Ev0 (f ()) Q := by
  match o with
  | none => simp only [owS, x_none, x_bind]
  | some .no => simp only [owS, x_none, x_bind]
  | some (.im _) => simp only [owS, x_none, x_bind]
  | some (.bx .l _) => simp only [owS, x_some, x_bind]
  | some (.bx (.o _) _) => simp only [owS, x_none, x_bind]
  | some (.bx (.d _) _) => simp only [owS, x_none, x_bind]
  | some (.fz _) => simp only [owS, x_none, x_bind]
  | some (.raw _) => simp only [owS, x_none, x_bind]
  | some (.mo _) => simp only [owS, x_none, x_bind]
theorem ev_dApp (i : Nat) (F : Ex) : Ev (dApp i F δ) S = Ev (owS δ[i]?) fun _ => Ev (F δ) fun x => Ev x.1.sh fun d => Ev (owS x.2[i]?) fun ds => Gd (ds.length < LINE) (S (.im .none, x.2.set i (.bx .l (ds ++ [d])))) := by
  unfold dApp
  simp only [e0, b0, g0]
  refine (x_owBind _ _).trans ?_
  simp only [x_bind, x_gd, x_some]
  rfl
def listS : PyData → Option (List PyData)
  | .list ds => some ds
  | _ => none
theorem listS_l (ds : List PyData) : listS (.list ds) = some ds := rfl
theorem ev_dExt (i : Nat) (F : Ex) : Ev (dExt i F δ) S = Ev (owS δ[i]?) fun _ => Ev (F δ) fun x => Ev x.1.sh fun d => Ev (listS d) fun es => Ev (owS x.2[i]?) fun ds => Gd (ds.length + es.length ≤ LINE) (S (.im .none, x.2.set i (.bx .l (ds ++ es)))) := by
  unfold dExt
  simp only [e0, b0, g0]
  refine (x_owBind _ _).trans ?_
  simp only [x_bind, x_gd, x_some]
  rfl
theorem ev_sSto (i : Nat) (Fi F : Ex) : Ev (sSto i Fi F δ) U = Ev (F δ) fun x => Ev x.1.sh fun d => Ev (owS x.2[i]?) fun _ => Ev (Fi x.2) fun y => Ev (intOf y.1) fun j => Ev (owS y.2[i]?) fun ds => Ev (ixN ds.length j) fun k => U (.nx, y.2.set i (.bx .l (ds.set k d))) := by
  unfold sSto
  simp only [e0, b0, g0]
  rw [x_bind]
  refine congrArg _ (funext fun x => ?_)
  rw [x_bind]
  refine congrArg _ (funext fun d => ?_)
  refine (x_owBind _ _).trans ?_
  simp only [x_bind, x_gd, x_some]
  rfl
def iiS : Option Sl → Option Int
  | some (.im (.int n)) => some n
  | _ => none
theorem iiS_i (n : Int) : iiS (some (.im (.int n))) = some n := rfl
theorem ev_sAug (i : Nat) (g : Int → Int → Int) (F : Ex) : Ev (sAug i g F δ) U = Ev (iiS δ[i]?) fun n => Ev (F δ) fun x => Ev (intOf x.1) fun m => U (.nx, x.2.set i (.im (.int (g n m)))) := by
  simp only [e0, b0, g0]
  unfold sAug
  rw [x_bind]
  show Ev0 (iiS δ[i]?) _ = _
  simp only [e0, b0, g0, x_bind, x_some]
theorem ev_dLend (is : List Nat) (F : Ex) : Ev (dLend is F δ) S = Ev (F (lendIn is δ)) fun x => Gd (nolR x.1 = true) (Ev (unl is 0 δ x.2) fun δn => S (x.1, δn)) := by
  simp only [e0, b0, g0, dLend, x_bind, x_gd, x_some]
def frzS (i : Nat) (δ : List Sl) : Option Sl → List Sl
  | some (.bx .l ds) => δ.set i (.im (.list ds))
  | _ => δ
theorem frz1_eq (i : Nat) (δ : List Sl) : frz1 i δ = frzS i δ δ[i]? := by unfold frz1 frzS; rfl
theorem frzS_ow (i : Nat) (ds : List PyData) : frzS i δ (some (.bx .l ds)) = δ.set i (.im (.list ds)) := rfl
theorem frzS_im (i : Nat) (d : PyData) : frzS i δ (some (.im d)) = δ := rfl
theorem frzS_no (i : Nat) : frzS i δ (some .no) = δ := rfl
theorem lendIn_nil : lendIn [] δ = δ := rfl
theorem lendIn_cons (i : Nat) (is : List Nat) : lendIn (i :: is) δ = lendIn is (frz1 i δ) := rfl
theorem unl_nil (is : List Nat) (k : Nat) : Ev (unl is k [] []) W = W [] := x_some _
theorem unl_cons (is : List Nat) (k : Nat) (a b : Sl) (as bs : List Sl) : Ev (unl is k (a :: as) (b :: bs)) W = Ev (unl1 (is.contains k) a b) fun s => Ev (unl is (k + 1) as bs) fun r => W (s :: r) := by
  simp only [e0, b0, g0, unl, x_bind, x_some]
theorem unl1_im (b : Bool) (d : PyData) (x : Sl) : unl1 b (.im d) x = some (.im d) := rfl
theorem unl1_no (b : Bool) (x : Sl) : unl1 b .no x = some .no := rfl
theorem unl1_fz (b : Bool) (d : List PyData) (x : Sl) : unl1 b (.fz d) x = some (.fz d) := rfl
theorem unl1_raw (b : Bool) (d : V) (x : Sl) : unl1 b (.raw d) x = some (.raw d) := rfl
theorem unl1_owt (ds : List PyData) (x : Sl) : unl1 true (.bx .l ds) x = some (.bx .l ds) := rfl
theorem unl1_owo (ds es : List PyData) {S : Sl → Prop} : Ev (unl1 false (.bx .l ds) (.bx .l es)) S = Gd (nolAll es = true) (S (.bx .l es)) := by
  show Ev (if false = true then some (Sl.bx .l ds) else if nolAll es = true then some (Sl.bx .l es) else none) S = _
  rw [if_neg Bool.false_ne_true, ev_gd, ev_some]
theorem unl1_owi (ds es : List PyData) {S : Sl → Prop} : Ev (unl1 false (.bx .l ds) (.im (.list es))) S = Gd (nolAll es = true) (S (.im (.list es))) := by
  show Ev (if false = true then some (Sl.bx .l ds) else if nolAll es = true then some (Sl.im (.list es)) else none) S = _
  rw [if_neg Bool.false_ne_true, ev_gd, ev_some]
theorem nolR_im (d : PyData) : nolR (.im d) = nolD d := rfl
theorem nolR_ow (d : List PyData) : nolR (.bx .l d) = nolAll d := rfl
theorem nolD_int (i : Int) : nolD (.int i) = true := by simp [nolD]
theorem nolD_str (i : Str) : nolD (.str i) = true := by simp [nolD]
theorem nolD_bool (i : Bool) : nolD (.bool i) = true := by simp [nolD]
theorem nolD_none : nolD .none = true := by simp [nolD]
theorem nolD_tup (l : List PyData) : nolD (.tuple l) = nolAll l := by simp [nolD]
theorem nolAll_nil : nolAll [] = true := by simp [nolAll]
theorem nolAll_cons (d : PyData) (l : List PyData) : nolAll (d :: l) = (nolD d && nolAll l) := by simp [nolAll]
theorem nolAll_of {l : List PyData} (h : ∀ d ∈ l, nolD d = true) : nolAll l = true := by
  induction l with
  | nil => simp [nolAll]
  | cons d l ih => simp only [nolAll, Bool.and_eq_true]; exact ⟨h d (List.mem_cons_self ..), ih fun e he => h e (List.mem_cons_of_mem _ he)⟩
theorem nolAll_ints (l : List Int) : nolAll (l.map PyData.int) = true := nolAll_of fun d hd => by
  obtain ⟨i, _, rfl⟩ := List.mem_map.mp hd
  exact nolD_int i
theorem nolAll_app (a b : List PyData) : nolAll (a ++ b) = (nolAll a && nolAll b) := by
  induction a with
  | nil => simp [nolAll]
  | cons d a ih => simp only [List.cons_append, nolAll, ih, Bool.and_assoc]
theorem ev_itSeq (F : Ex) : Ev (itSeq F δ) Y = Ev (F δ) fun x => Ev x.1.sh fun d => Ev (seqD d) fun ds => Y (ds, x.2) := by simp only [e0, b0, g0, itSeq, x_bind, x_some]
theorem ev_itR1 (F : Ex) : Ev (itR1 F δ) Y = Ev (F δ) fun x => Ev (intOf x.1) fun j => Gd (-P62 ≤ j ∧ j < P62) (Y (rangeD 0 1 j.toNat, x.2)) := by simp only [e0, b0, g0, itR1, x_bind, x_gd, x_some]
theorem ev_itR2 (F G : Ex) : Ev (itR2 F G δ) Y = Ev (F δ) fun x => Ev (intOf x.1) fun i => Ev (G x.2) fun y => Ev (intOf y.1) fun j => Gd (-P62 ≤ i ∧ i < P62 ∧ -P62 ≤ j ∧ j < P62) (Y (rangeD i 1 (j - i).toNat, y.2)) := by simp only [e0, b0, g0, itR2, x_bind, x_gd, x_some]
theorem ev_itR3 (F G H : Ex) : Ev (itR3 F G H δ) Y = Ev (F δ) fun x => Ev (intOf x.1) fun i => Ev (G x.2) fun y => Ev (intOf y.1) fun j => Ev (H y.2) fun z => Ev (intOf z.1) fun c => Ev (r3D i j c) fun ds => Y (ds, z.2) := by simp only [e0, b0, g0, itR3, x_bind, x_some]
theorem ev_itEn (F : Ex) : Ev (itEn F δ) Y = Ev (F δ) fun x => Ev x.1.sh fun d => Ev (listS d) fun ds => Y (enumD ds, x.2) := by
  simp only [e0, b0, g0, itEn, x_bind, x_some]
  refine congrArg _ (funext fun x => congrArg _ (funext fun d => ?_))
  cases d <;> simp only [e0, b0, g0, listS, x_none, x_some]
theorem ev_itZip (F G : Ex) : Ev (itZip F G δ) Y = Ev (F δ) fun x => Ev x.1.sh fun d => Ev (G x.2) fun y => Ev y.1.sh fun e => Ev (listS d) fun ds => Ev (listS e) fun es => Y (zipD ds es, y.2) := by
  simp only [e0, b0, g0, itZip, x_bind, x_some]
  refine congrArg _ (funext fun x => congrArg _ (funext fun d => congrArg _ (funext fun y => congrArg _ (funext fun e => ?_))))
  cases d <;> cases e <;> simp only [e0, b0, g0, listS, x_none, x_some]
theorem ev_sFor (I : It') (tg : Tg) (A : Sm) : Ev (sFor I tg A δ) U = Ev (I δ) fun x => Ev (loopD tg A x.1 x.2) U := by simp only [e0, b0, g0, sFor, x_bind]
def kLoop (N : List Sl → Prop) (U : Fl × List Sl → Prop) : Fl → List Sl → Prop
  | .nx, δ => N δ
  | .ct, δ => N δ
  | .bk, δ => U (.nx, δ)
  | .rt r, δ => U (.rt r, δ)
theorem kLoop_nx (N : List Sl → Prop) : kLoop N U .nx δ = N δ := rfl
theorem kLoop_ct (N : List Sl → Prop) : kLoop N U .ct δ = N δ := rfl
theorem kLoop_bk (N : List Sl → Prop) : kLoop N U .bk δ = U (.nx, δ) := rfl
theorem kLoop_rt (N : List Sl → Prop) (r : Sl) : kLoop N U (.rt r) δ = U (.rt r, δ) := rfl
theorem ev_loopNil (tg : Tg) (A : Sm) : Ev (loopD tg A [] δ) U = U (.nx, δ) := x_some _
theorem ev_loopCons (tg : Tg) (A : Sm) (d : PyData) (ds : List PyData) : Ev (loopD tg A (d :: ds) δ) U = Ev (tg d δ) fun δ1 => Ev (A δ1) fun x => kLoop (fun δ2 => Ev (loopD tg A ds δ2) U) U x.1 x.2 := by
  simp only [e0, b0, g0]
  rw [loopD, x_bind]
  refine congrArg _ (funext fun δ1 => ?_)
  rw [x_bind]
  refine congrArg _ (funext fun x => ?_)
  obtain ⟨f, d⟩ := x
  cases f <;> simp only [e0, b0, g0, kLoop, x_some]
/-- a loop, by what holds ahead of every turn -/
theorem ev_loop {tg : Tg} {A : Sm} (Inv : Nat → List Sl → Prop) : ∀ {ds : List PyData} {k : Nat} {δ : List Sl}, Inv k δ →
    (∀ (i : Nat) (d : PyData) (δ : List Sl), ds[i]? = some d → Inv (k + i) δ → Ev (tg d δ) fun δ1 => Ev (A δ1) fun x => kLoop (Inv (k + i + 1)) U x.1 x.2) →
    (∀ δ, Inv (k + ds.length) δ → U (.nx, δ)) → Ev (loopD tg A ds δ) U
  | [], k, δ, h, _, e => by rw [ev_loopNil]; exact e δ h
  | d :: ds, k, δ, h, s, e => by
    rw [ev_loopCons]
    refine (s 0 d δ rfl h).mono fun δ1 g => g.mono fun x g => ?_
    have go : ∀ δ2, Inv (k + 1) δ2 → Ev (loopD tg A ds δ2) U := fun δ2 g => ev_loop Inv g (fun i d' δ' e' h' => by
        have := s (i + 1) d' δ' (by simpa using e') (by rw [show k + (i + 1) = k + 1 + i by omega]; exact h')
        rw [show k + (i + 1) + 1 = k + 1 + i + 1 by omega] at this; exact this) (fun δ' h' => e δ' (by rw [List.length_cons, show k + (ds.length + 1) = k + 1 + ds.length by omega]; exact h'))
    obtain ⟨f, d2⟩ := x
    cases f with
    | nx => exact go _ g
    | ct => exact go _ g
    | bk => exact g
    | rt r => exact g
theorem ev_dLc' (n : Nat) (I : It') (tg : Tg) (c : Tt) (F : Ex) (vs : List Nat) : Ev (dLc' n I tg c F vs δ) S = Gd (δ.length ≤ n) (Ev (I δ) fun x => Gd (calmD x.2 vs = true) (Ev (lcD tg c F vs x.1 [] x.2) fun y => S (.bx .l y.1, unwipe x.2 y.2 vs))) := by
  unfold dLc' dLc
  simp only [e0, b0, g0, x_gd, x_bind, x_some]
theorem ev_lcNil (tg : Tg) (c : Tt) (F : Ex) (vs : List Nat) (acc : List PyData) : Ev (lcD tg c F vs [] acc δ) Y = Y (acc, δ) := x_some _
theorem ev_lcCons (tg : Tg) (c : Tt) (F : Ex) (vs : List Nat) (d : PyData) (ds acc : List PyData) : Ev (lcD tg c F vs (d :: ds) acc δ) Y = Ev (tg d (wipeD δ vs)) fun δ1 => Ev (c δ1) fun x => Br (x.1 = true) (Ev (F x.2) fun y => Ev y.1.sh fun v => Gd (acc.length < LINE) (Ev (lcD tg c F vs ds (acc ++ [v]) y.2) Y)) (Ev (lcD tg c F vs ds acc x.2) Y) := by
  simp only [e0, b0, g0]
  rw [lcD]
  simp only [e0, b0, g0, x_bind, x_ite, x_gd, x_none]
  refine congrArg _ (funext fun δ1 => congrArg _ (funext fun x => ?_))
  refine congrArg (fun p => Br _ p _) (congrArg _ (funext fun y => congrArg _ (funext fun v => ?_)))
  exact propext ⟨fun g => (Classical.em _).elim (fun h => ⟨h, g.1 h⟩) fun h => (g.2 h).elim, fun g => ⟨fun _ => g.2, fun h => (h g.1).elim⟩⟩
theorem ev_lc {tg : Tg} {c : Tt} {F : Ex} {vs : List Nat} (Inv : Nat → List PyData → List Sl → Prop) : ∀ {ds : List PyData} {k : Nat} {acc : List PyData} {δ : List Sl}, Inv k acc δ → acc.length + ds.length ≤ LINE →
    (∀ (i : Nat) (d : PyData) (acc : List PyData) (δ : List Sl), ds[i]? = some d → Inv (k + i) acc δ → Ev (tg d (wipeD δ vs)) fun δ1 => Ev (c δ1) fun x => Br (x.1 = true) (Ev (F x.2) fun y => Ev y.1.sh fun v => Inv (k + i + 1) (acc ++ [v]) y.2) (Inv (k + i + 1) acc x.2)) →
    (∀ acc δ, Inv (k + ds.length) acc δ → Y (acc, δ)) → Ev (lcD tg c F vs ds acc δ) Y
  | [], k, acc, δ, h, _, _, e => by rw [ev_lcNil]; exact e acc δ h
  | d :: ds, k, acc, δ, h, hl, s, e => by
    rw [ev_lcCons]
    rw [List.length_cons] at hl
    refine (s 0 d acc δ rfl h).mono fun δ1 g => g.mono fun x g => ?_
    have go : ∀ acc2 δ2, acc2.length ≤ acc.length + 1 → Inv (k + 1) acc2 δ2 → Ev (lcD tg c F vs ds acc2 δ2) Y := fun acc2 δ2 hl2 g => ev_lc Inv g (by omega) (fun i d' a' δ' e' h' => by
        have := s (i + 1) d' a' δ' (by simpa using e') (by rw [show k + (i + 1) = k + 1 + i by omega]; exact h')
        rw [show k + (i + 1) + 1 = k + 1 + i + 1 by omega] at this; exact this) (fun a' δ' h' => e a' δ' (by rw [List.length_cons, show k + (ds.length + 1) = k + 1 + ds.length by omega]; exact h'))
    refine ⟨fun hx => (g.1 hx).mono fun y g => g.mono fun v g => ⟨by omega, go _ _ (by simp) g⟩, fun hx => go _ _ (by omega) (g.2 hx)⟩
end
def MulOk (i j : Int) : Prop := i.natAbs.log2 + j.natAbs.log2 < 1000000
def FdivOk (j : Int) : Prop := 0 < j ∧ j.natAbs.log2 < 9000
def PowOk (i j : Int) : Prop := 0 ≤ j ∧ (i.natAbs.log2 + 1 : Int) * j ≤ 2 ^ 27
def StrOk (i : Int) : Prop := i.natAbs.log2 < 1920
def DmOk (i j : Int) : Prop := 0 < j ∧ (i.natAbs.log2 + 1 : Nat) ≤ j.natAbs.log2 + 4000
section
variable {S : Sl → Prop} {B : Bool → Prop}
theorem v_add (i j : Int) : addD (.int i) (.int j) = some (.im (.int (i + j))) := rfl
theorem v_adds (a b : Str) : Ev (addD (.str a) (.str b)) S = Gd (a.length + b.length ≤ LINE) (S (.im (.str (a ++ b)))) := by simp only [e0, b0, g0, addD, x_gd, x_some]
theorem v_addl (a b : List PyData) : Ev (addD (.list a) (.list b)) S = Gd (a.length + b.length ≤ LINE) (S (.bx .l (a ++ b))) := by simp only [e0, b0, g0, addD, x_gd, x_some]
theorem v_addt (a b : List PyData) : Ev (addD (.tuple a) (.tuple b)) S = Gd (a.length + b.length ≤ LINE) (S (.im (.tuple (a ++ b)))) := by simp only [e0, b0, g0, addD, x_gd, x_some]
theorem v_sub (i j : Int) : subD (.int i) (.int j) = some (.im (.int (i - j))) := rfl
theorem v_mul (i j : Int) : Ev (mulD (.int i) (.int j)) S = Gd (MulOk i j) (S (.im (.int (i * j)))) := by simp only [e0, b0, g0, MulOk, mulD, x_gd, x_some]
theorem v_mull (a : List PyData) (k : Int) : Ev (mulD (.list a) (.int k)) S = Gd (-(2 ^ 63) ≤ k ∧ k < 2 ^ 63 ∧ a.length * k.toNat ≤ LINE) (S (.bx .l (List.replicate k.toNat a).flatten)) := by simp only [e0, b0, g0, mulD, x_gd, x_some]
theorem v_muls (a : Str) (k : Int) : Ev (mulD (.str a) (.int k)) S = Gd (-(2 ^ 63) ≤ k ∧ k < 2 ^ 63 ∧ a.length * k.toNat ≤ LINE) (S (.im (.str (repS k.toNat a)))) := by simp only [e0, b0, g0, mulD, x_gd, x_some]
theorem v_mod (i j : Int) : Ev (modD (.int i) (.int j)) S = Gd (0 < j) (S (.im (.int (i % j)))) := by simp only [e0, b0, g0, modD, x_gd, x_some]
theorem v_fdiv (i j : Int) : Ev (fdivD (.int i) (.int j)) S = Gd (FdivOk j) (S (.im (.int (i / j)))) := by simp only [e0, b0, g0, FdivOk, fdivD, x_gd, x_some]
theorem v_pow (i j : Int) : Ev (powD (.int i) (.int j)) S = Gd (PowOk i j) (S (.im (.int (i ^ j.toNat)))) := by simp only [e0, b0, g0, PowOk, powD, x_gd, x_some]
theorem v_neg (i : Int) : negD (.int i) = some (.im (.int (-i))) := rfl
theorem v_bl (f : PyData → PyData → Option Bool) (d e : PyData) : Ev (blD f d e) S = Ev (f d e) fun b => S (.im (.bool b)) := by simp only [e0, b0, g0, blD, x_bind, x_some]
theorem v_nb (f : PyData → PyData → Option Bool) (d e : PyData) : Ev (nbD f d e) S = Ev (f d e) fun b => S (.im (.bool (!b))) := by simp only [e0, b0, g0, nbD, x_bind, x_some]
theorem v_lt (i j : Int) : ltD (.int i) (.int j) = some (decide (i < j)) := rfl
theorem v_le (i j : Int) : leD (.int i) (.int j) = some (decide (i ≤ j)) := rfl
theorem v_gt (i j : Int) : gtD (.int i) (.int j) = some (decide (j < i)) := rfl
theorem v_ge (i j : Int) : geD (.int i) (.int j) = some (decide (j ≤ i)) := rfl
theorem v_ne (d e : PyData) : Ev (neD d e) B = Ev (eqD d e) fun b => B (!b) := by simp only [e0, b0, g0, neD, x_bind, x_some]
theorem v_isn (d e : PyData) : Ev (isnD d e) B = Ev (isD d e) fun b => B (!b) := by simp only [e0, b0, g0, isnD, x_bind, x_some]
theorem v_eqi (i j : Int) : eqD (.int i) (.int j) = some (decide (i = j)) := rfl
theorem v_eqs (i j : Str) : eqD (.str i) (.str j) = some (decide (i = j)) := rfl
theorem v_eqb (i j : Bool) : eqD (.bool i) (.bool j) = some (decide (i = j)) := rfl
theorem v_eqn : eqD .none .none = some true := rfl
theorem v_eqin (i : Int) : eqD (.int i) .none = some false := rfl
theorem v_eqni (i : Int) : eqD .none (.int i) = some false := rfl
theorem v_eqll (a b : List PyData) : Ev (eqD (.list a) (.list b)) B = Gd (SeqAt.shaped (.list a) = true ∧ SeqAt.shaped (.list b) = true) (B (PyData.eqv (.list a) (.list b))) := by simp only [e0, b0, g0, eqD, x_gd, x_some]
theorem v_eqtt (a b : List PyData) : Ev (eqD (.tuple a) (.tuple b)) B = Gd (SeqAt.shaped (.tuple a) = true ∧ SeqAt.shaped (.tuple b) = true) (B (PyData.eqv (.tuple a) (.tuple b))) := by simp only [e0, b0, g0, eqD, x_gd, x_some]
theorem v_isnn : isD .none .none = some true := rfl
theorem v_isin (i : Int) : isD (.int i) .none = some false := rfl
theorem v_issn (i : Str) : isD (.str i) .none = some false := rfl
theorem v_isbn (i : Bool) : isD (.bool i) .none = some false := rfl
theorem v_isln (i : List PyData) : isD (.list i) .none = some false := rfl
theorem v_istn (i : List PyData) : isD (.tuple i) .none = some false := rfl
theorem v_isbb (i j : Bool) : isD (.bool i) (.bool j) = some (decide (i = j)) := rfl
theorem v_abs (i : Int) : absD (.int i) = some (.im (.int (if i < 0 then -i else i))) := rfl
theorem v_max (i j : Int) : max2D (.int i) (.int j) = some (.im (.int (if j > i then j else i))) := rfl
theorem v_min (i j : Int) : min2D (.int i) (.int j) = some (.im (.int (if j < i then j else i))) := rfl
theorem v_lenl (ds : List PyData) : lenD (.list ds) = some (.im (.int ds.length)) := rfl
theorem v_lent (ds : List PyData) : lenD (.tuple ds) = some (.im (.int ds.length)) := rfl
theorem v_lens (s : Str) : Ev (lenD (.str s)) S = Gd (s.length ≤ LINE) (S (.im (.int s.length))) := by simp only [e0, b0, g0, lenD, x_gd, x_some]
theorem v_inti (i : Int) : intD (.int i) = some (.im (.int i)) := rfl
theorem v_intb (i : Bool) : intD (.bool i) = some (.im (.int (if i then 1 else 0))) := rfl
theorem v_ints (s : Str) : Ev (intD (.str s)) S = Gd (s.length ≤ 640) (Ev (PySem.intText? s) fun n => S (.im (.int n))) := by simp only [e0, b0, g0, intD, x_gd, x_bind, x_some]
theorem v_stri (i : Int) : Ev (strD (.int i)) S = Gd (StrOk i) (S (.im (.str (toString i)))) := by simp only [e0, b0, g0, StrOk, strD, x_gd, x_some]
theorem v_strs (i : Str) : strD (.str i) = some (.im (.str i)) := rfl
theorem v_listl (ds : List PyData) : listD (.list ds) = some (.bx .l ds) := rfl
theorem v_listt (ds : List PyData) : listD (.tuple ds) = some (.bx .l ds) := rfl
theorem v_tupl (ds : List PyData) : tupD (.list ds) = some (.im (.tuple ds)) := rfl
theorem v_tupt (ds : List PyData) : tupD (.tuple ds) = some (.im (.tuple ds)) := rfl
theorem v_sum (ds : List PyData) : Ev (sumD (.list ds)) S = Ev (intsD ds) fun ns => S (.im (.int ns.sum)) := by simp only [e0, b0, g0, sumD, x_bind, x_some]
theorem v_maxl (ds : List PyData) : Ev (maxD (.list ds)) S = Ev (intsD ds) fun ns => Ev (maxL ns) fun m => S (.im (.int m)) := by simp only [e0, b0, g0, maxD, x_bind, x_some]
theorem v_minl (ds : List PyData) : Ev (minD (.list ds)) S = Ev (intsD ds) fun ns => Ev (minL ns) fun m => S (.im (.int m)) := by simp only [e0, b0, g0, minD, x_bind, x_some]
theorem v_sorted (ds : List PyData) : Ev (sortedD (.list ds)) S = Ev (intsD ds) fun ns => S (.bx .l ((sortI ns).map PyData.int)) := by simp only [e0, b0, g0, sortedD, x_bind, x_some]
theorem v_any (ds : List PyData) : Ev (anyD (.list ds)) S = Ev (boolsD ds) fun ns => S (.im (.bool (ns.any id))) := by simp only [e0, b0, g0, anyD, x_bind, x_some]
theorem v_all (ds : List PyData) : Ev (allD (.list ds)) S = Ev (boolsD ds) fun ns => S (.im (.bool (ns.all id))) := by simp only [e0, b0, g0, allD, x_bind, x_some]
theorem v_r3 (i j : Int) {Y : List PyData → Prop} : Ev (r3D i j (-1)) Y = Gd (-P62 ≤ i ∧ i < P62 ∧ -P62 ≤ j ∧ j < P62) (Y (rangeD i (-1) (i - j).toNat)) := by
  simp only [e0, b0, g0, r3D, true_and, x_gd, x_some]
theorem v_rev (ds : List PyData) : revD (.list ds) = some (.bx .l ds.reverse) := rfl
theorem v_divmod (i j : Int) : Ev (divmodD (.int i) (.int j)) S = Gd (DmOk i j) (S (.im (.tuple [.int (i / j), .int (i % j)]))) := by simp only [e0, b0, g0, DmOk, divmodD, x_gd, x_some]
theorem v_ixl (ds : List PyData) (i : Int) : Ev (ixD (.list ds) (.int i)) S = Ev (atI ds i) fun d => S (.im d) := by simp only [e0, b0, g0, ixD, x_bind, x_some]
theorem v_ixt (ds : List PyData) (i : Int) : Ev (ixD (.tuple ds) (.int i)) S = Ev (atI ds i) fun d => S (.im d) := by simp only [e0, b0, g0, ixD, x_bind, x_some]
theorem v_ixs (s : Str) (i : Int) : Ev (ixD (.str s) (.int i)) S = Gd (s.length ≤ LINE) (Ev (atI s.cps.toList i) fun c => S (.im (.str ⟨#[c]⟩))) := by simp only [e0, b0, g0, ixD, x_gd, x_bind, x_some]
theorem v_sll (lo hi : Option Int) (ds : List PyData) : slD lo hi (.list ds) = some (.bx .l (cutD ds lo hi)) := rfl
theorem v_slt (lo hi : Option Int) (ds : List PyData) : slD lo hi (.tuple ds) = some (.im (.tuple (cutD ds lo hi))) := rfl
theorem v_sls (lo hi : Option Int) (s : Str) : Ev (slD lo hi (.str s)) S = Gd (s.length ≤ LINE) (S (.im (.str (cutS s lo hi)))) := by simp only [e0, b0, g0, slD, x_gd, x_some]
theorem v_isi (T : String) (d : PyData) : Ev (isiD T d) S = Ev (clsD d) fun t => S (.im (.bool (kinD t T))) := by simp only [e0, b0, g0, isiD, x_bind, x_some]
theorem cls_none : clsD .none = some "NoneType" := rfl
theorem cls_bool (b : Bool) : clsD (.bool b) = some "bool" := rfl
theorem cls_int (i : Int) : clsD (.int i) = some "int" := rfl
theorem cls_str (i : Str) : clsD (.str i) = some "str" := rfl
theorem cls_list (i : List PyData) : clsD (.list i) = some "list" := rfl
theorem cls_tuple (i : List PyData) : clsD (.tuple i) = some "tuple" := rfl
theorem seqD_l (ds : List PyData) : seqD (.list ds) = some ds := rfl
theorem seqD_t (ds : List PyData) : seqD (.tuple ds) = some ds := rfl
theorem seqD_s (s : Str) : seqD (.str s) = some (charD s) := rfl
end
end CK
namespace CK
open PySem L2
theorem lg (i : Int) (h1 : -(10 ^ 250) < i) (h2 : i < 10 ^ 250) : i.natAbs.log2 < 900 := by
  have h3 : i.natAbs < 10 ^ 250 := by omega
  by_cases h0 : i.natAbs = 0
  · rw [h0]; decide
  · rw [Nat.log2_lt h0]
    exact Nat.lt_trans h3 (by decide +kernel)
theorem lgm {i j : Int} (h1 : -(10 ^ 250) < i) (h2 : i < 10 ^ 250) (h3 : -(10 ^ 250) < j) (h4 : j < 10 ^ 250) : MulOk i j := by
  unfold MulOk
  have := lg i h1 h2; have := lg j h3 h4; omega
theorem lgf {j : Int} (h3 : 0 < j) (h4 : j < 10 ^ 250) : FdivOk j := by
  have := lg j (by omega) h4; exact ⟨h3, by omega⟩
theorem lgp {i j : Int} (h1 : -(10 ^ 250) < i) (h2 : i < 10 ^ 250) (h3 : 0 ≤ j) (h4 : j ≤ 10000) : PowOk i j := by
  have := lg i h1 h2
  refine ⟨h3, Int.le_trans (Int.mul_le_mul_of_nonneg_right (show ((i.natAbs.log2 : Int) + 1) ≤ 900 by omega) h3) (by omega)⟩
theorem lgs {i : Int} (h1 : -(10 ^ 250) < i) (h2 : i < 10 ^ 250) : StrOk i := by
  unfold StrOk
  have := lg i h1 h2; omega
theorem lgv {i j : Int} (h1 : -(10 ^ 250) < i) (h2 : i < 10 ^ 250) (h3 : 0 < j) : DmOk i j := by
  have := lg i h1 h2; exact ⟨h3, by omega⟩
section
variable {α : Type} {Q : α → Prop}
theorem at0 (a : α) (l : List α) : atI (a :: l) 0 = some a := by
  unfold atI ixN; rw [if_pos (by omega), if_pos (by simp)]; rfl
theorem atn (a : α) (l : List α) (n : Nat) : atI (a :: l) ((n + 1 : Nat) : Int) = atI l (n : Int) := by
  unfold atI ixN
  rw [List.length_cons, if_pos (show (0:Int) ≤ ((n + 1 : Nat) : Int) by omega), if_pos (show (0:Int) ≤ (n : Int) by omega)]
  by_cases h : n < l.length
  · rw [if_pos (by omega), if_pos (by omega)]; simp
  · rw [if_neg (by omega), if_neg (by omega)]; rfl
theorem at1 (a b : α) (l : List α) : atI (a :: b :: l) 1 = some b := (atn a (b :: l) 0).trans (at0 b l)
theorem at2 (a b c : α) (l : List α) : atI (a :: b :: c :: l) 2 = some c := (atn a (b :: c :: l) 1).trans (at1 b c l)
theorem at3 (a b c d : α) (l : List α) : atI (a :: b :: c :: d :: l) 3 = some d := (atn a (b :: c :: d :: l) 2).trans (at2 b c d l)
theorem at4 (a b c d e : α) (l : List α) : atI (a :: b :: c :: d :: e :: l) 4 = some e := (atn a (b :: c :: d :: e :: l) 3).trans (at3 b c d e l)
theorem at5 (a b c d e f : α) (l : List α) : atI (a :: b :: c :: d :: e :: f :: l) 5 = some f := (atn a (b :: c :: d :: e :: f :: l) 4).trans (at4 b c d e f l)
theorem atin (l : List α) {i : Int} (h : 0 ≤ i) (h2 : i < l.length) : ∃ a, l[i.toNat]? = some a ∧ atI l i = some a := by
  have hl : i.toNat < l.length := by omega
  refine ⟨l[i.toNat], List.getElem?_eq_getElem hl, ?_⟩
  have := atI_nat (List.getElem?_eq_getElem hl)
  rwa [Int.toNat_of_nonneg h] at this
theorem ix0 (n : Nat) : ixN (n + 1) 0 = some 0 := by unfold ixN; rw [if_pos (by omega), if_pos (by omega)]; rfl
theorem ix1 (n : Nat) : ixN (n + 2) 1 = some 1 := by unfold ixN; rw [if_pos (by omega), if_pos (by omega)]; rfl
theorem ix2 (n : Nat) : ixN (n + 3) 2 = some 2 := by unfold ixN; rw [if_pos (by omega), if_pos (by omega)]; rfl
theorem ixin (n : Nat) {i : Int} (h : 0 ≤ i) (h2 : i < n) : ixN n i = some i.toNat := by unfold ixN; rw [if_pos h, if_pos h2]
end
theorem ev_loop0 {U : Fl × List Sl → Prop} {tg : Tg} {A : Sm} (Inv : Nat → List Sl → Prop) {ds : List PyData} {δ : List Sl} (h : Inv 0 δ)
    (s : ∀ (i : Nat) (d : PyData) (δ : List Sl), ds[i]? = some d → Inv i δ → Ev (tg d δ) fun δ1 => Ev (A δ1) fun x => kLoop (Inv (i + 1)) U x.1 x.2)
    (e : ∀ δ, Inv ds.length δ → U (.nx, δ)) : Ev (loopD tg A ds δ) U :=
  ev_loop Inv (k := 0) h (fun i d δ h1 h2 => by
    rw [Nat.zero_add] at h2 ⊢
    exact s i d δ h1 h2) (fun δ h1 => e δ (by simpa only [Nat.zero_add] using h1))
theorem ev_lc0 {Y : List PyData × List Sl → Prop} {tg : Tg} {c : Tt} {F : Ex} {vs : List Nat} (Inv : Nat → List PyData → List Sl → Prop) {ds : List PyData} {δ : List Sl} (h : Inv 0 [] δ) (hl : ds.length ≤ 16777216)
    (s : ∀ (i : Nat) (d : PyData) (acc : List PyData) (δ : List Sl), ds[i]? = some d → Inv i acc δ → Ev (tg d (wipeD δ vs)) fun δ1 => Ev (c δ1) fun x => Br (x.1 = true) (Ev (F x.2) fun y => Ev y.1.sh fun v => Inv (i + 1) (acc ++ [v]) y.2) (Inv (i + 1) acc x.2))
    (e : ∀ acc δ, Inv ds.length acc δ → Y (acc, δ)) : Ev (lcD tg c F vs ds [] δ) Y :=
  ev_lc Inv (k := 0) h (by simpa using hl) (fun i d a δ h1 h2 => by
    rw [Nat.zero_add] at h2 ⊢
    exact s i d a δ h1 h2) (fun a δ h1 => e a δ (by simpa only [Nat.zero_add] using h1))
theorem range_get {lo c : Int} {n i : Nat} {d : PyData} (h : (rangeD lo c n)[i]? = some d) : i < n ∧ d = .int (lo + (i : Int) * c) := by
  unfold rangeD at h
  rw [List.getElem?_map] at h
  obtain ⟨k, hk, rfl⟩ := Option.map_eq_some_iff.mp h
  obtain ⟨hi, e⟩ := List.getElem?_eq_some_iff.mp hk
  rw [List.getElem_range] at e
  subst e
  exact ⟨by simpa using hi, rfl⟩
theorem range_len (lo c : Int) (n : Nat) : (rangeD lo c n).length = n := by simp [rangeD]
structure Nic (k n : Nat) (d : PyData) : Prop where
  s : PyData.showable d = true
  nd : PyData.hasDict d = false
  len : (PyData.shown d).length ≤ n
  dep : PyData.depth d ≤ k
  lay : PyData.canLay0 d = true
theorem len_int {i : Int} (h1 : -(10 ^ 250) < i) (h2 : i < 10 ^ 250) : (PySem.Str.ofString (toString i)).length ≤ 251 := by
  by_cases h : 0 ≤ i
  · exact Nat.le_trans (PyProof.Rows.toString_length_le h (k := 250) (by decide) h2) (by decide)
  · have e := PyProof.Rows.toString_neg (show i < 0 by omega)
    have h3 := PyProof.Rows.toString_length_le (v := 0 - i) (by omega) (k := 250) (by decide) (by omega)
    rw [e]
    rw [PyProof.Rows.ofString_len] at h3 ⊢
    rw [String.length_append]
    have : ("-" : String).length = 1 := rfl
    omega
theorem nic_int (i : Int) (h1 : -(10 ^ 250) < i) (h2 : i < 10 ^ 250) : Nic 0 260 (.int i) where
  s := by have : i.natAbs.log2 < 1920 := lgs h1 h2; simpa [PyData.showable] using this
  nd := by simp only [PyData.hasDict]
  len := by
    have := len_int h1 h2
    show (PySem.Str.ofString (toString i)).length ≤ _
    omega
  dep := by simp only [PyData.depth]; omega
  lay := by simp only [PyData.canLay0]
theorem nic_bool (i : Bool) : Nic 0 260 (.bool i) where
  s := by simp only [PyData.showable]
  nd := by simp only [PyData.hasDict]
  len := by cases i <;> decide
  dep := by simp only [PyData.depth]; omega
  lay := by simp only [PyData.canLay0]
theorem nic_none : Nic 0 260 .none where
  s := by simp only [PyData.showable]
  nd := by simp only [PyData.hasDict]
  len := by decide
  dep := by simp only [PyData.depth]; omega
  lay := by simp only [PyData.canLay0]
theorem Nic.mono {k n k' n' : Nat} {d : PyData} (h : Nic k n d) (hk : k ≤ k') (hn : n ≤ n') : Nic k' n' d := ⟨h.s, h.nd, Nat.le_trans h.len hn, Nat.le_trans h.dep hk, h.lay⟩
theorem nic_all {k n : Nat} : ∀ {ds : List PyData}, (∀ d ∈ ds, Nic k n d) → PyData.showableAll ds = true ∧ PyData.hasDictAll ds = false ∧ ((PyData.shownAll ds).map (·.length)).sum ≤ ds.length * n ∧ (PyData.shownAll ds).length = ds.length ∧ PyData.depthAll ds ≤ k ∧ PyData.canLayAll0 ds = true
  | [], _ => ⟨by simp only [PyData.showableAll], by simp only [PyData.hasDictAll], by simp [PyData.shownAll], by simp [PyData.shownAll], by simp only [PyData.depthAll]; omega, by simp only [PyData.canLayAll0]⟩
  | d :: ds, h => by
    obtain ⟨h1, h2, h3, h4, h5, h6⟩ := nic_all (ds := ds) fun e he => h e (List.mem_cons_of_mem _ he)
    have g := h d (List.mem_cons_self ..)
    refine ⟨by simp only [PyData.showableAll, g.s, h1, Bool.and_self], by simp only [PyData.hasDictAll, g.nd, h2, Bool.or_self], ?_, by simp only [PyData.shownAll, List.length_cons, h4], ?_, by simp only [PyData.canLayAll0, g.lay, h6, Bool.and_self]⟩
    · have := g.len
      simp only [PyData.shownAll, List.map_cons, List.sum_cons, List.length_cons, Nat.add_mul, Nat.one_mul]
      omega
    · have := g.dep
      simp only [PyData.depthAll]
      omega
theorem nic_list {k n : Nat} {ds : List PyData} (h : ∀ d ∈ ds, Nic k n d) : Nic (k + 1) (ds.length * (n + 2) + 3) (.list ds) := by
  obtain ⟨h1, h2, h3, h4, h5, h6⟩ := nic_all h
  refine ⟨by simpa only [PyData.showable] using h1, by simpa only [PyData.hasDict] using h2, ?_, by simp only [PyData.depth]; omega, by simpa only [PyData.canLay0] using h6⟩
  have := PySem.listText_len_le (PyData.shownAll ds)
  simp only [PyData.shown, Nat.mul_add]
  omega
theorem nic_tup {k n : Nat} {ds : List PyData} (h : ∀ d ∈ ds, Nic k n d) : Nic (k + 1) (ds.length * (n + 2) + 3) (.tuple ds) := by
  obtain ⟨h1, h2, h3, h4, h5, h6⟩ := nic_all h
  refine ⟨by simpa only [PyData.showable] using h1, by simpa only [PyData.hasDict] using h2, ?_, by simp only [PyData.depth]; omega, by simpa only [PyData.canLay0] using h6⟩
  have := PySem.tupleText_len_le (PyData.shownAll ds)
  simp only [PyData.shown, Nat.mul_add]
  omega
theorem nic_ints {ns : List Int} (h : ∀ i ∈ ns, -(10 ^ 250) < i ∧ i < 10 ^ 250) : ∀ d ∈ ns.map PyData.int, Nic 0 260 d := by
  intro d hd
  obtain ⟨i, hi, rfl⟩ := List.mem_map.mp hd
  exact nic_int i (h i hi).1 (h i hi).2
theorem allc {P : PyData → Prop} {a : PyData} {l : List PyData} (h : P a) (h2 : ∀ d ∈ l, P d) : ∀ d ∈ a :: l, P d := fun d hd => by cases hd with | head => exact h | tail _ h => exact h2 d h
theorem alln {P : PyData → Prop} : ∀ d ∈ ([] : List PyData), P d := fun d hd => by cases hd
section
variable {S : Sl → Prop} {B : Bool → Prop} {k n k' n' : Nat} {d e : PyData}
theorem ev_repr (h : Nic k n d) (hk : k ≤ 64) (hn : n ≤ 16777216) (q : S (.im (.str (PyData.shown d)))) : Ev (reprD d) S := by
  unfold reprD
  rw [ev_gd, ev_some]
  exact ⟨⟨h.s, h.nd, Nat.le_trans h.len hn, Nat.le_trans h.dep hk⟩, q⟩
theorem Nic.shaped (h : Nic k n d) (hk : k ≤ 64) : SeqAt.shaped d = true := by
  unfold SeqAt.shaped
  rw [h.lay, Bool.true_and, decide_eq_true_eq]
  exact Nat.le_trans h.dep hk
theorem Nic.refl (h : Nic k n d) : PyData.eqv d d = true := SeqAt.eqv_refl d h.lay
end
theorem kin_int_int : kinD "int" "int" = true := by decide
theorem kin_int_bool : kinD "int" "bool" = false := by decide
theorem kin_int_str : kinD "int" "str" = false := by decide
theorem kin_int_list : kinD "int" "list" = false := by decide
theorem kin_int_tuple : kinD "int" "tuple" = false := by decide
theorem kin_bool_int : kinD "bool" "int" = true := by decide
theorem kin_bool_bool : kinD "bool" "bool" = true := by decide
theorem kin_bool_str : kinD "bool" "str" = false := by decide
theorem kin_bool_list : kinD "bool" "list" = false := by decide
theorem kin_bool_tuple : kinD "bool" "tuple" = false := by decide
theorem kin_str_int : kinD "str" "int" = false := by decide
theorem kin_str_bool : kinD "str" "bool" = false := by decide
theorem kin_str_str : kinD "str" "str" = true := by decide
theorem kin_str_list : kinD "str" "list" = false := by decide
theorem kin_str_tuple : kinD "str" "tuple" = false := by decide
theorem kin_list_int : kinD "list" "int" = false := by decide
theorem kin_list_bool : kinD "list" "bool" = false := by decide
theorem kin_list_str : kinD "list" "str" = false := by decide
theorem kin_list_list : kinD "list" "list" = true := by decide
theorem kin_list_tuple : kinD "list" "tuple" = false := by decide
theorem kin_tuple_int : kinD "tuple" "int" = false := by decide
theorem kin_tuple_bool : kinD "tuple" "bool" = false := by decide
theorem kin_tuple_str : kinD "tuple" "str" = false := by decide
theorem kin_tuple_list : kinD "tuple" "list" = false := by decide
theorem kin_tuple_tuple : kinD "tuple" "tuple" = true := by decide
theorem kin_NoneType_int : kinD "NoneType" "int" = false := by decide
theorem kin_NoneType_bool : kinD "NoneType" "bool" = false := by decide
theorem kin_NoneType_str : kinD "NoneType" "str" = false := by decide
theorem kin_NoneType_list : kinD "NoneType" "list" = false := by decide
theorem kin_NoneType_tuple : kinD "NoneType" "tuple" = false := by decide
end CK
namespace CK
open PySem L2 SX
theorem dv_append (a b : List Nat) : NumText.digitsVal (a ++ b) = NumText.digitsVal a * 10 ^ b.length + NumText.digitsVal b := by
  have key : ∀ (b : List Nat) (x : Nat), b.foldl (fun acc c => acc * 10 + (c - 48)) x = x * 10 ^ b.length + NumText.digitsVal b := by
    intro b
    induction b with
    | nil => intro x; simp [NumText.digitsVal]
    | cons c r ih =>
      intro x
      rw [List.foldl_cons, ih, List.length_cons]
      show _ = _ + List.foldl _ 0 (c :: r)
      rw [List.foldl_cons, ih, Nat.pow_succ]
      rw [Nat.zero_mul, Nat.zero_add, Nat.add_mul, Nat.mul_assoc x, Nat.mul_comm 10, Nat.add_assoc]
  show (a ++ b).foldl _ 0 = _
  rw [List.foldl_append, key]; rfl
theorem dv_zero (n : Nat) : NumText.digitsVal (List.replicate n 48) = 0 := by
  induction n with
  | zero => rfl
  | succ n ih => rw [List.replicate_succ, show (48 :: List.replicate n 48) = [48] ++ List.replicate n 48 from rfl, dv_append, ih]; simp [NumText.digitsVal]
theorem dig_zero (n : Nat) : NumText.AllDigits (List.replicate n 48) := fun c hc => by rw [(List.mem_replicate.mp hc).2]; decide
theorem dig_app {a b : List Nat} (h : NumText.AllDigits a) (g : NumText.AllDigits b) : NumText.AllDigits (a ++ b) := fun c hc => (List.mem_append.mp hc).elim (h c) (g c)
theorem int_dig {a : List Nat} (h : NumText.AllDigits a) (hne : a ≠ []) (hl : a.length ≤ 4300) : intText? (S a) = some ((NumText.digitsVal a : Nat) : Int) :=
  int_S (by rw [List.all_eq_true]; intro c hc; have := h c hc; simp; omega) hne hl
theorem repS_dig (n : Nat) (c : Nat) : repS n (S [c]) = S (List.replicate n c) := by
  unfold repS S
  congr 1
  show (List.replicate n [c]).flatten.toArray = _
  congr 1
  induction n with
  | zero => rfl
  | succ n ih => rw [List.replicate_succ, List.flatten_cons, ih]; rfl
theorem ten_text (n : Nat) (h : n ≤ 600) : intText? (S [49] ++ repS n (S [48])) = some ((10 ^ n : Nat) : Int) := by
  rw [repS_dig, S_cat, int_dig (dig_app (fun c hc => by cases hc with | head => decide | tail _ h => cases h) (dig_zero n)) (by simp) (by simp; omega), dv_append, dv_zero, List.length_replicate]
  simp [NumText.digitsVal]
theorem one_S : ("1" : Str) = S [49] := rfl
theorem zero_S : ("0" : Str) = S [48] := rfl
/-- a number's digits behind noughts -/
def digs (w n : Nat) : List Nat := List.replicate w 48 ++ TL.numL n
theorem num_nat (n : Nat) : PySem.Str.ofString (toString ((n : Nat) : Int)) = S (TL.numL n) := num_S n
theorem digs_fold (w n : Nat) : List.replicate w 48 ++ TL.numL n = digs w n := rfl
theorem S_catX (a b : List Nat) : S a ++ S b = S (a ++ b) := S_cat a b
def Mc (w s r : Int) : PyData := .tuple [.int w, .int s, .int r]
theorem mc0 {w s r : Int} {S : Sl → Prop} : Ev (ixD (Mc w s r) (.int 0)) S = S (.im (.int w)) := by unfold Mc; rw [v_ixt, at0, ev_some]
theorem mc1 {w s r : Int} {S : Sl → Prop} : Ev (ixD (Mc w s r) (.int 1)) S = S (.im (.int s)) := by unfold Mc; rw [v_ixt, at1, ev_some]
theorem mc2 {w s r : Int} {S : Sl → Prop} : Ev (ixD (Mc w s r) (.int 2)) S = S (.im (.int r)) := by unfold Mc; rw [v_ixt, at2, ev_some]
end CK
namespace CK
open PySem L2
theorem whileD_out {c : Tt} {A : Sm} {U : Fl × List Sl → Prop} (Inv : Nat → List Sl → Prop)
    (s : ∀ (n : Nat) (δ : List Sl), Inv n δ → Ev (c δ) fun x => Br (x.1 = true) (Ev (A x.2) fun y => kLoop (fun δ2 => ∃ m, m < n ∧ Inv m δ2) U y.1 y.2) (U (.nx, x.2))) :
    ∀ (n : Nat) (δ : List Sl), Inv n δ → ∃ N r, whileD c A N δ = some r ∧ U r := by
  intro n
  induction n using Nat.strongRecOn with
  | _ n ih =>
    intro δ h
    obtain ⟨⟨b, δ1⟩, e1, g⟩ := s n δ h
    cases b with
    | false =>
      refine ⟨1, (.nx, δ1), ?_, g.2 Bool.false_ne_true⟩
      unfold whileD
      rw [e1]; rfl
    | true =>
      obtain ⟨⟨fl, δ2⟩, e2, g⟩ := g.1 rfl
      have again : (∃ m, m < n ∧ Inv m δ2) → (fl = .nx ∨ fl = .ct) → ∃ N r, whileD c A N δ = some r ∧ U r := fun ⟨m, hm, g⟩ hf => by
        obtain ⟨N, r, e3, u⟩ := ih m hm δ2 g
        refine ⟨N + 1, r, ?_, u⟩
        unfold whileD
        rw [e1, Option.bind_some, if_pos rfl, e2, Option.bind_some]
        rcases hf with rfl | rfl <;> exact e3
      cases fl with
      | nx => exact again g (.inl rfl)
      | ct => exact again g (.inr rfl)
      | bk =>
        refine ⟨1, (.nx, δ2), ?_, g⟩
        unfold whileD
        rw [e1, Option.bind_some, if_pos rfl, e2, Option.bind_some]
      | rt r =>
        refine ⟨1, (.rt r, δ2), ?_, g⟩
        unfold whileD
        rw [e1, Option.bind_some, if_pos rfl, e2, Option.bind_some]
theorem ev_while {c : Tt} {A : Sm} {U : Fl × List Sl → Prop} (Inv : Nat → List Sl → Prop) {n : Nat} {δ : List Sl} (h : Inv n δ)
    (s : ∀ (n : Nat) (δ : List Sl), Inv n δ → Ev (c δ) fun x => Br (x.1 = true) (Ev (A x.2) fun y => kLoop (fun δ2 => ∃ m, m < n ∧ Inv m δ2) U y.1 y.2) (U (.nx, x.2))) : Ev (sWhile c A δ) U := by
  obtain ⟨N, r, e, u⟩ := whileD_out Inv s n δ h
  exact ⟨r, sWhile_of e, u⟩
section
variable {δ : List Sl} {S : Sl × List Sl → Prop} {U : Fl × List Sl → Prop} {W : List Sl → Prop} {T : Sl → Prop} {B : Bool → Prop}
theorem ev_dLR1 (F : Ex) : Ev (dLR1 F δ) S = Ev (F δ) fun x => Ev (intOf x.1) fun n => Gd (0 ≤ n ∧ n ≤ LINE) (S (.bx .l (rgD 0 n), x.2)) := by simp only [e0, b0, g0, dLR1, x_bind, x_gd, x_some]
theorem ev_dLR2 (F1 F2 : Ex) : Ev (dLR2 F1 F2 δ) S = Ev (F1 δ) fun x => Ev (intOf x.1) fun n => Ev (F2 x.2) fun y => Ev (intOf y.1) fun m => Gd (0 ≤ n ∧ n ≤ LINE ∧ 0 ≤ m ∧ m ≤ LINE) (S (.bx .l (rgD n m), y.2)) := by simp only [e0, b0, g0, dLR2, x_bind, x_gd, x_some]
theorem ev_dCh3 (f g h : Int → Int → Bool) (a b c d : Ex) : Ev (dCh3 f g h a b c d δ) S = Ev (a δ) fun x => Ev (intOf x.1) fun i => Ev (b x.2) fun y => Ev (intOf y.1) fun j => Br (f i j = true) (Ev (c y.2) fun z => Ev (intOf z.1) fun k => Br (g j k = true) (Ev (d z.2) fun u => Ev (intOf u.1) fun l => S (.im (.bool (h k l)), u.2)) (S (.im (.bool false), z.2))) (S (.im (.bool false), y.2)) := by
  simp only [e0, b0, g0, dCh3, x_bind, x_ite, x_some]
theorem lstS_im (ds : List PyData) : lstS (some (.im (.list ds))) = some ds := rfl
theorem lstS_ow (ds : List PyData) : lstS (some (.bx .l ds)) = some ds := rfl
theorem ev_dIdx (i : Nat) (F : Ex) : Ev (dIdx i F δ) S = Ev (lstS δ[i]?) fun _ => Ev (F δ) fun x => Ev x.1.sh fun d => Ev (lstS x.2[i]?) fun es => Gd (SeqAt.shaped (.list es) = true ∧ SeqAt.shaped d = true) (Ev (idxL d es) fun j => S (.im (.int (j : Nat)), x.2)) := by
  simp only [e0, b0, g0, dIdx, x_bind, x_gd, x_some]
theorem ev_tgS (i : Nat) (Fi : Ex) (d : PyData) : Ev (tgS i Fi d δ) W = Ev (owS δ[i]?) fun _ => Ev (Fi δ) fun y => Ev (intOf y.1) fun j => Ev (owS y.2[i]?) fun ds => Ev (ixN ds.length j) fun k => W (y.2.set i (.bx .l (ds.set k d))) := by
  unfold tgS
  simp only [e0, b0, g0]
  refine (x_owBind _ _).trans ?_
  simp only [x_bind, x_gd, x_some]
  rfl
theorem ev_sPick (i : Nat) (c : Tt) (F1 F2 : Ex) (b : Od) : Ev (sPick i c F1 F2 b δ) U = Ev (c δ) fun x => Gd (i < x.2.length) (Br (x.1 = true) (Ev (sRet (dOp2 ixD (.ex F1) b) (x.2.set i .no)) U) (Ev (sRet (dOp2 ixD (.ex F2) b) (x.2.set i .no)) U)) := by
  simp only [e0, b0, g0, sPick, x_bind, x_gd]
  refine congrArg _ (funext fun x => ?_)
  obtain ⟨b', δ'⟩ := x
  have e : Ev0 (sRet (dOp2 ixD (.ex (if b' = true then F1 else F2)) b) (δ'.set i .no)) U = Br0 (b' = true) (Ev0 (sRet (dOp2 ixD (.ex F1) b) (δ'.set i .no)) U) (Ev0 (sRet (dOp2 ixD (.ex F2) b) (δ'.set i .no)) U) := by
    cases b' with
    | true => exact propext ⟨fun h => ⟨fun _ => h, fun n => (n rfl).elim⟩, fun h => h.1 rfl⟩
    | false => exact propext ⟨fun h => ⟨fun n => (nomatch n), fun _ => h⟩, fun h => h.2 Bool.false_ne_true⟩
  exact congrArg _ e
theorem v_usort (ds : List PyData) : Ev (usortD (.list ds)) T = Ev (intsD ds) fun ns => Gd (ns.length < 64) (T (.bx .l ((usortI ns).map PyData.int))) := by simp only [e0, b0, g0, usortD, x_bind, x_gd, x_some]
theorem v_meml (d : PyData) (ds : List PyData) : Ev (memD d (.list ds)) B = Gd (SeqAt.shaped d = true ∧ SeqAt.shaped (.list ds) = true) (B (ds.any fun z => PyData.eqv z d)) := by cases d <;> simp only [e0, b0, g0, memD, x_gd, x_some]
theorem v_memt (d : PyData) (ds : List PyData) : Ev (memD d (.tuple ds)) B = Gd (SeqAt.shaped d = true ∧ SeqAt.shaped (.tuple ds) = true) (B (ds.any fun z => PyData.eqv z d)) := by cases d <;> simp only [e0, b0, g0, memD, x_gd, x_some]
theorem v_nmem (d e : PyData) : Ev (nmemD d e) B = Ev (memD d e) fun b => B (!b) := by simp only [e0, b0, g0, nmemD, x_bind, x_some]
end
end CK
namespace CK
open PySem PySem.Spec PyProof.Rows L2
section
variable {δ : List Sl} {S : Sl × List Sl → Prop} {U : Fl × List Sl → Prop}
theorem objS_o (fs : List Str) (ds : List PyData) : objS (some (.bx (.o fs) ds)) = some (fs, ds) := rfl
theorem ev_dFld (i : Nat) (f : Str) : Ev (dFld i f δ) S = Ev (objS δ[i]?) fun o => Ev ((o.1.zip o.2).lookup f) fun d => S (.im d, δ) := by simp only [e0, b0, g0, dFld, x_bind, x_some]
theorem ev_sFldD (i : Nat) (f : Str) (F : Ex) : Ev (sFldD i f F δ) U = Ev (F δ) fun x => Ev x.1.sh fun d => Ev (objS x.2[i]?) fun o => Gd (o.1.length < 9) (Ev (putD f d o.1 o.2) fun r => U (.nx, x.2.set i (.bx (.o r.1) r.2))) := by simp only [e0, b0, g0, sFldD, x_bind, x_gd, x_some]
theorem ev_dMeth (m : Str) (fn : Fn) (i : Nat) (as : List Ag) : Ev (dMeth m fn i as δ) S = Ev (objS δ[i]?) fun o => Gd (o.1.contains m = false) (Ev (dCall fn (.io i :: as) δ) S) := by simp only [e0, b0, g0, dMeth, x_bind, x_gd]
theorem ev_dProp (fn : Fn) (i : Nat) : Ev (dProp fn i δ) S = Ev (objS δ[i]?) fun _ => Ev (dCall fn [.io i] δ) S := by simp only [e0, b0, g0, dProp, x_bind]
def makeS : Sl × List Sl → Option Sl
  | (.im .none, .bx (.o fs) ds :: _) => some (.bx (.o fs) ds)
  | _ => none
theorem makeS_o (fs : List Str) (ds : List PyData) (r : List Sl) : makeS (.im .none, .bx (.o fs) ds :: r) = some (.bx (.o fs) ds) := rfl
theorem ev_dMake (fn : Fn) (as : List Ag) : Ev (dMake fn as δ) S = Gd (agI as = []) (Ev (agE as δ) fun x => Ev (agS as x.1 x.2) fun ss => Ev (fn (.bx (.o []) [] :: ss)) fun y => Ev (makeS y) fun o => S (o, x.2)) := by
  simp only [e0, b0, g0, dMake, x_gd, x_bind]
  refine congrArg _ (congrArg _ (funext fun x => congrArg _ (funext fun ss => congrArg _ (funext fun y => ?_))))
  unfold makeS
  split <;> simp only [x_some, x_none]
theorem ev_dHide (F : Ex) : Ev (dHide F δ) S = Ev (F (hide δ)) fun x => S (x.1, unh δ x.2) := by simp only [e0, b0, g0, dHide, x_bind, x_some]
theorem hide_nil : hide [] = [] := rfl
theorem hide_cons (s : Sl) (r : List Sl) : hide (s :: r) = hideS s :: hide r := rfl
theorem hideS_o (fs : List Str) (ds : List PyData) : hideS (.bx (.o fs) ds) = .no := rfl
theorem hideS_l (ds : List PyData) : hideS (.bx .l ds) = .bx .l ds := rfl
theorem hideS_im (d : PyData) : hideS (.im d) = .im d := rfl
theorem hideS_fz (d : List PyData) : hideS (.fz d) = .fz d := rfl
theorem hideS_no : hideS .no = .no := rfl
theorem unh_nil (y : List Sl) : unh [] y = y := rfl
theorem unh_cons (s x : Sl) (r y : List Sl) : unh (s :: r) (x :: y) = unS s x :: unh r y := rfl
theorem unS_o (fs : List Str) (ds : List PyData) (x : Sl) : unS (.bx (.o fs) ds) x = .bx (.o fs) ds := rfl
theorem unS_l (ds : List PyData) (x : Sl) : unS (.bx .l ds) x = x := rfl
theorem unS_im (d : PyData) (x : Sl) : unS (.im d) x = x := rfl
theorem unS_fz (d : List PyData) (x : Sl) : unS (.fz d) x = x := rfl
theorem unS_no (x : Sl) : unS .no x = x := rfl
theorem str_kc : (("kept_calls" : Str) == ("kept_machine" : Str)) = false := by decide
theorem str_ne : ((("kept_machine" : Str) = ("kept_calls" : Str)) = False) := eq_false (by decide)
end
end CK
namespace CK
open PySem PySem.Spec PyProof.Rows L2
mutual
theorem empD_of : ∀ d : PyData, PyData.hasDict d = false → empD d = true
  | .none, _ => by simp only [empD]
  | .bool _, _ => by simp only [empD]
  | .int _, _ => by simp only [empD]
  | .str _, _ => by simp only [empD]
  | .list xs, h => by
    simp only [empD]
    exact empAll_of xs (by simpa only [PyData.hasDict] using h)
  | .tuple xs, h => by
    simp only [empD]
    exact empAll_of xs (by simpa only [PyData.hasDict] using h)
  | .dict _, h => by simp only [PyData.hasDict] at h; cases h
theorem empAll_of : ∀ xs : List PyData, PyData.hasDictAll xs = false → empAll xs = true
  | [], _ => by simp only [empAll]
  | x :: xs, h => by
    simp only [PyData.hasDictAll, Bool.or_eq_false_iff] at h
    simp only [empAll, empD_of x h.1, empAll_of xs h.2, Bool.and_self]
end
structure Nix (k n : Nat) (d : PyData) : Prop where
  s : PyData.showable d = true
  e : empD d = true
  len : (PyData.shown d).length ≤ n
  dep : PyData.depth d ≤ k
theorem Nic.nix {k n : Nat} {d : PyData} (h : Nic k n d) : Nix k n d := ⟨h.s, empD_of d h.nd, h.len, h.dep⟩
theorem Nix.mono {k n k' n' : Nat} {d : PyData} (h : Nix k n d) (hk : k ≤ k') (hn : n ≤ n') : Nix k' n' d := ⟨h.s, h.e, Nat.le_trans h.len hn, Nat.le_trans h.dep hk⟩
theorem nix_all {k n : Nat} : ∀ {ds : List PyData}, (∀ d ∈ ds, Nix k n d) → PyData.showableAll ds = true ∧ empAll ds = true ∧ ((PyData.shownAll ds).map (·.length)).sum ≤ ds.length * n ∧ (PyData.shownAll ds).length = ds.length ∧ PyData.depthAll ds ≤ k
  | [], _ => ⟨by simp only [PyData.showableAll], by simp only [empAll], by simp [PyData.shownAll], by simp [PyData.shownAll], by simp only [PyData.depthAll]; omega⟩
  | d :: ds, h => by
    obtain ⟨h1, h2, h3, h4, h5⟩ := nix_all (ds := ds) fun e he => h e (List.mem_cons_of_mem _ he)
    have g := h d (List.mem_cons_self ..)
    refine ⟨by simp only [PyData.showableAll, g.s, h1, Bool.and_self], by simp only [empAll, g.e, h2, Bool.and_self], ?_, by simp only [PyData.shownAll, List.length_cons, h4], ?_⟩
    · have := g.len
      simp only [PyData.shownAll, List.map_cons, List.sum_cons, List.length_cons, Nat.add_mul, Nat.one_mul]
      omega
    · have := g.dep
      simp only [PyData.depthAll]
      omega
theorem nix_list {k n : Nat} {ds : List PyData} (h : ∀ d ∈ ds, Nix k n d) : Nix (k + 1) (ds.length * (n + 2) + 3) (.list ds) := by
  obtain ⟨h1, h2, h3, h4, h5⟩ := nix_all h
  refine ⟨by simpa only [PyData.showable] using h1, by simpa only [empD] using h2, ?_, by simp only [PyData.depth]; omega⟩
  have := PySem.listText_len_le (PyData.shownAll ds)
  simp only [PyData.shown, Nat.mul_add]
  omega
section
variable {δ : List Sl} {S : Sl × List Sl → Prop} {U : Fl × List Sl → Prop} {T : Sl → Prop}
theorem keyOf_int (i : Int) : keyOf (.im (.int i)) = some (.inl i) := rfl
theorem keyOf_str (i : Str) : keyOf (.im (.str i)) = some (.inr i) := rfl
theorem dicS_d (ks : List Key) (ds : List PyData) : dicS (some (.bx (.d ks) ds)) = some (ks, ds) := rfl
theorem ev_dDicE : Ev (dDicE δ) S = S (.im (.dict []), δ) := x_some _
theorem v_isiE (t : String) (d : PyData) : Ev (isiE t d) T = Ev (clsE d) fun u => T (.im (.bool (kinD u t))) := by simp only [e0, b0, g0, isiE, x_bind, x_some]
theorem clsE_dict (k : List (PyData × PyData)) : clsE (.dict k) = some "dict" := rfl
theorem clsE_none : clsE .none = some "NoneType" := rfl
theorem clsE_bool (b : Bool) : clsE (.bool b) = some "bool" := rfl
theorem clsE_int (i : Int) : clsE (.int i) = some "int" := rfl
theorem clsE_str (i : Str) : clsE (.str i) = some "str" := rfl
theorem clsE_list (i : List PyData) : clsE (.list i) = some "list" := rfl
theorem clsE_tuple (i : List PyData) : clsE (.tuple i) = some "tuple" := rfl
theorem kin_dict_int : kinD "dict" "int" = false := by decide +kernel
theorem kin_dict_bool : kinD "dict" "bool" = false := by decide +kernel
theorem kin_dict_str : kinD "dict" "str" = false := by decide +kernel
theorem kin_dict_list : kinD "dict" "list" = false := by decide +kernel
theorem kin_dict_tuple : kinD "dict" "tuple" = false := by decide +kernel
theorem ev_reprX {k n : Nat} {d : PyData} (h : Nix k n d) (hk : k ≤ 64) (hn : n ≤ 16777216) (q : T (.im (.str (PyData.shown d)))) : Ev (reprE d) T := by
  unfold reprE
  rw [ev_gd, ev_some]
  exact ⟨⟨h.s, h.e, Nat.le_trans h.len hn, Nat.le_trans h.dep hk⟩, q⟩
theorem ev_dDicN : Ev (dDicN δ) S = S (.bx (.d []) [], δ) := x_some _
theorem ev_dDic1 (Fk F : Ex) : Ev (dDic1 Fk F δ) S = Ev (Fk δ) fun x => Ev (keyOf x.1) fun k => Ev (F x.2) fun y => Ev y.1.sh fun d => S (.bx (.d [k]) [d], y.2) := by simp only [e0, b0, g0, dDic1, x_bind, x_some]
theorem ev_dDGet (i : Nat) (Fk : Ex) : Ev (dDGet i Fk δ) S = Ev (dicS δ[i]?) fun _ => Ev (Fk δ) fun x => Ev (keyOf x.1) fun k => Ev (dicS x.2[i]?) fun o => Ev (getQ k o.1 o.2) fun d => S (.im d, x.2) := by simp only [e0, b0, g0, dDGet, x_bind, x_some]
theorem ev_dDIn (n : Bool) (Fk : Ex) (i : Nat) : Ev (dDIn n Fk i δ) S = Ev (Fk δ) fun x => Ev (keyOf x.1) fun k => Ev (dicS x.2[i]?) fun o => S (.im (.bool (n != (getQ k o.1 o.2).isSome)), x.2) := by simp only [e0, b0, g0, dDIn, x_bind, x_some]
theorem ev_sDPutD (i : Nat) (Fk F : Ex) : Ev (sDPutD i Fk F δ) U = Ev (F δ) fun x => Ev x.1.sh fun d => Ev (dicS x.2[i]?) fun _ => Ev (Fk x.2) fun y => Ev (keyOf y.1) fun k => Ev (dicS y.2[i]?) fun o => Gd (o.1.Nodup ∧ o.1.length < LINE ∧ o.1.length = o.2.length) (Ev (putQ k d o.1 o.2) fun r => U (.nx, y.2.set i (.bx (.d r.1) r.2))) := by
  simp only [e0, b0, g0, sDPutD, x_bind, x_gd, x_some]
theorem ev_dSortK (i : Nat) : Ev (dSortK i δ) S = Ev (dicS δ[i]?) fun o => Ev (keysI o.1) fun ns => Gd (ns.length < 64 ∧ o.1.length = o.2.length) (S (.bx .l ((sortI ns).map PyData.int), δ)) := by simp only [e0, b0, g0, dSortK, x_bind, x_gd, x_some]
theorem moS_mo (x : Inf) : moS (some (.mo x)) = some x := rfl
theorem ev_dMPl (i : Nat) : Ev (dMPl i δ) S = Ev (moS δ[i]?) fun x => S (.im (.int x.pl), δ) := by simp only [e0, b0, g0, dMPl, x_bind, x_some]
theorem ev_dMMeth (fn : Fn) (i : Nat) (as : List Ag) : Ev (dMMeth fn i as δ) S = Ev (moS δ[i]?) fun _ => Ev (dCallM fn (.io i :: as) δ) S := by simp only [e0, b0, g0, dMMeth, x_bind]
theorem ev_dCallM (f : Fn) (as : List Ag) : Ev (dCallM f as δ) S = Ev (agE as δ) fun x => Gd (moIn (agI as) 0 x.2 = true) (Ev (agS as x.1 x.2) fun ss => Ev (f ss) fun y => S (y.1, agB as y.2 x.2)) := by simp only [e0, b0, g0, dCallM, x_bind, x_gd, x_some]
theorem moIn_nil (l : List Nat) (i : Nat) : moIn l i [] = true := rfl
theorem moIn_mo (l : List Nat) (i : Nat) (x : Inf) (r : List Sl) : moIn l i (.mo x :: r) = (l.contains i && moIn l (i + 1) r) := rfl
theorem moIn_im (l : List Nat) (i : Nat) (x : PyData) (r : List Sl) : moIn l i (.im x :: r) = moIn l (i + 1) r := rfl
theorem moIn_bx (l : List Nat) (i : Nat) (t : Bt) (x : List PyData) (r : List Sl) : moIn l i (.bx t x :: r) = moIn l (i + 1) r := rfl
theorem moIn_no (l : List Nat) (i : Nat) (r : List Sl) : moIn l i (.no :: r) = moIn l (i + 1) r := rfl
theorem moIn_fz (l : List Nat) (i : Nat) (x : List PyData) (r : List Sl) : moIn l i (.fz x :: r) = moIn l (i + 1) r := rfl
theorem moIn_raw (l : List Nat) (i : Nat) (x : V) (r : List Sl) : moIn l i (.raw x :: r) = moIn l (i + 1) r := rfl
/-- behind a suite that runs through -/
def kThru (N : List Sl → Prop) : Fl → List Sl → Prop
  | .nx, δ => N δ
  | _, _ => False
theorem kThru_nx (N : List Sl → Prop) : kThru N .nx δ = N δ := rfl
theorem ev_sMemo (sp : SpT) (li : LiT) (i k : Nat) (f : Str) (B : Sm) (F : Ex) : Ev (sMemo sp li i k f B F δ) U = Ev (moS δ[i]?) fun x => Ev (rdN δ k) fun kd => Gd (kd ∈ li x f ∧ keyOk kd = true) (Ev (B δ) fun y => kThru (fun δ1 => Ev (F δ1) fun z => Ev z.1.sh fun d =>
    Gd (sp x f kd = some d ∧ moS z.2[i]? = some x ∧ rdN z.2 k = some kd ∧ z.2.length = δ.length) (U (.rt (.im d), (List.replicate z.2.length Sl.no).set i (.mo x)))) y.1 y.2) := by
  simp only [e0, b0, g0, sMemo, x_bind, x_gd, x_some]
  refine congrArg _ (funext fun x => congrArg _ (funext fun kd => congrArg _ (congrArg _ (funext fun y => ?_))))
  obtain ⟨fl, d⟩ := y
  cases fl <;> simp only [kThru, x_some, x_none, e0, b0, g0, x_bind, x_gd]
theorem ev_dUnl (li : LiT) (mW : Fn) (F : Ex) (as : List Ag) : Ev (dUnl li mW F as δ) S = Ev (F δ) fun x => Ev (intOf x.1) fun n => Ev (agE as x.2) fun y => Ev (agS as y.1 y.2) fun ss => Gd (allIm ss = true ∧ agI as = [] ∧ ∀ f ∈ mNames, (li (infOf n ss) f).length ≤ sizeLine) (Ev (mW (.mo (infOf n ss) :: ss)) fun z => Ev (imS z.1) fun d => S (.im d, y.2)) := by
  simp only [e0, b0, g0, dUnl, x_bind, x_gd, x_some]
theorem ev_sPar4 (i j l m : Nat) (F1 F2 F3 F4 : Ex) : Ev (sPar4 i j l m F1 F2 F3 F4 δ) U = Ev (F1 δ) fun x => Ev (F2 x.2) fun y => Ev (F3 y.2) fun z => Ev (F4 z.2) fun u => U (.nx, (((u.2.set i x.1).set j y.1).set l z.1).set m u.1) := by simp only [e0, b0, g0, sPar4, x_bind, x_some]
theorem ownL_l (ds : List PyData) : ownL (.bx .l ds) = some ds := rfl
theorem ev_dOrL (f g : Ex) : Ev (dOrL f g δ) S = Ev (f δ) fun x => Ev (ownL x.1) fun ds => Br (ds.isEmpty = true) (Ev (g x.2) S) (S x) := by simp only [e0, b0, g0, dOrL, x_bind, x_ite, x_some]
theorem imS_im (d : PyData) : imS (.im d) = some d := rfl
theorem ev_dDFrz (i : Nat) : Ev (dDFrz i δ) S = Ev (dicS δ[i]?) fun o => S (.im (dicP o.1 o.2), δ.set i (.im (dicP o.1 o.2))) := by simp only [e0, b0, g0, dDFrz, x_bind, x_some]
theorem ev_tgTL {W : List Sl → Prop} (t : List PyData → List Sl → Option (List Sl)) (ds : List PyData) : Ev (tgTL t (.list ds) δ) W = Ev (t ds δ) W := rfl
theorem v_ltl {B : Bool → Prop} (ds es : List PyData) : Ev (ltLD (.list ds) (.list es)) B = Ev (intsD ds) fun ns => Ev (intsD es) fun ms => B (HT.lexLt ns ms) := by simp only [e0, b0, g0, ltLD, x_bind, x_some]
theorem v_ixkl (ds : List PyData) (e : PyData) : Ev (ixkD (.list ds) e) T = Ev (ixD (.list ds) e) T := rfl
theorem v_ixkt (ds : List PyData) (e : PyData) : Ev (ixkD (.tuple ds) e) T = Ev (ixD (.tuple ds) e) T := rfl
theorem v_ixkd (ds : List (PyData × PyData)) (i : Int) : Ev (ixkD (.dict ds) (.int i)) T = Ev (lkD ds i) fun d => T (.im d) := by simp only [e0, b0, g0, ixkD, x_bind, x_some]
end
end CK
namespace CK
open PySem PySem.Spec PyProof.Rows L2
structure Swap (P : Program) (w : World) (H H' : Hp) : Prop where
  none : ∀ b, H b = none → H' b = none
  tups : ∀ b xs, H b = some (.tup xs) → H' b = some (.tup xs)
  frzs : ∀ b o u, H b = some (.frz o u) → H' b = some (.frz o u)
  tbls : ∀ b ps, H b = some (.tbl ps) → H' b = some (.tbl ps)
  ok : ∀ h, HOk P w H h → HOk P w H' h
theorem Swap.refl {P : Program} {w : World} {H : Hp} : Swap P w H H := ⟨fun _ e => e, fun _ _ e => e, fun _ _ _ e => e, fun _ _ e => e, fun _ e => e⟩
theorem invSwap {X : Cx} {pins : List (Addr × Obj)} {σ : L2.St} {H H' : Hp} {s : Shared} (I : Inv X pins σ H s) (S : Swap X.prog X.w H H') : Inv X pins σ H' s :=
  I.un (t' := s.toks) (h' := s.heap) ⟨fun _ _ e _ _ _ => e, fun _ o e _ _ _ => ⟨o.slots, e⟩, fun b _ _ e _ => S.none b e, fun _ o e _ => ⟨o, e⟩, S.tups, S.frzs, fun b ps e => ⟨#[], by rw [Array.append_empty]; exact S.tbls b ps e⟩⟩ (S.ok _ I.hok)
/-- the ends, where the heap may be read in another way -/
def endsS (P : Program) (w : World) (D : Ends) : Ends where
  nx := fun σ H => ∃ H', Swap P w H H' ∧ D.nx σ H'
  bk := fun σ H => ∃ H', Swap P w H H' ∧ D.bk σ H'
  ct := fun σ H => ∃ H', Swap P w H H' ∧ D.ct σ H'
  rt := fun v H => ∃ H', Swap P w H H' ∧ D.rt v H'
theorem sp_swap {X : Cx} {pins : List (Addr × Obj)} {D : Ends} {f : Flow} {s : Shared} (h : L2.SP X pins (endsS X.prog X.w D) f s) : L2.SP X pins D f s := by
  cases f with
  | next => obtain ⟨σ, H, I, H', S, q⟩ := h; exact ⟨σ, H', invSwap I S, q⟩
  | brk => obtain ⟨σ, H, I, H', S, q⟩ := h; exact ⟨σ, H', invSwap I S, q⟩
  | cont => obtain ⟨σ, H, I, H', S, q⟩ := h; exact ⟨σ, H', invSwap I S, q⟩
  | ret u => obtain ⟨v, σ, H, I, r, H', S, q⟩ := h; exact ⟨v, σ, H', invSwap I S, r, q⟩
def tSw (P : Program) (w : World) (t : TS) : TS := fun D σ H => ∃ H', Swap P w H H' ∧ t (endsS P w D) σ H'
theorem pss_swap {X : Cx} {ss : List Stmt} {t : TS} (h : PSs X ss t) : PSs X ss (tSw X.prog X.w t) := ⟨fun pins s σ H D I ⟨H', S, q⟩ => thn (h.run pins s σ H' (endsS X.prog X.w D) (invSwap I S) q) fun _ _ z => sp_swap z⟩
theorem ps_swap {X : Cx} {ss : Stmt} {t : TS} (h : PS X ss t) : PS X ss (tSw X.prog X.w t) := ⟨fun pins s σ H D I ⟨H', S, q⟩ => thn (h.run pins s σ H' (endsS X.prog X.w D) (invSwap I S) q) fun _ _ z => sp_swap z⟩
def tSwE (P : Program) (w : World) (t : TE) : TE := fun σ H Q => ∃ H', Swap P w H H' ∧ t σ H' fun v H2 => ∃ H3, Swap P w H2 H3 ∧ Q v H3
theorem pe_swap {X : Cx} {e : Expr} {t : TE} (h : PE X e t) : PE X e (tSwE X.prog X.w t) := ⟨fun pins s σ H Q I ⟨H', S, q⟩ => thn (h.run pins s σ H' _ (invSwap I S) q) fun u s1 ⟨v, H2, I2, r, H3, S2, q2⟩ => ⟨v, H3, invSwap I2 S2, r, q2⟩⟩
def inX (C dx a : Addr) : Heap → Prop := fun h => h.get? a = some (PySem.W.instObj C dx)
def nsX (a : Addr) (fs : List (Str × V)) : Heap → Prop := fun h => ∃ mA, h.Ns1 a mA ∧ (∀ f, RelO (fs.lookup f) (mA f)) ∧ PySem.Within mA (fs.map (·.1))
section
variable {P : Program} {w : World} {H H' : Hp} {h : Heap} {C dx a : Addr} {fs : List (Str × V)}
theorem inX_ok (e : inX C dx a h) : ObjOk P w H h a (.ext (inX C dx a)) := ⟨e, ⟨_, e⟩, fun h1 h2 e1 k => k _ e1⟩
theorem nsX_ok (e : nsX a fs h) : ObjOk P w H h a (.ext (nsX a fs)) := by
  obtain ⟨mA, n, r, wi⟩ := e
  refine ⟨⟨mA, n, r, wi⟩, ?_, ?_⟩
  · obtain ⟨o, es, ep, e, _⟩ := n; exact ⟨o, e⟩
  · rintro h1 h2 ⟨m, n1, r1, w1⟩ k
    exact ⟨m, n1.at k, r1, w1⟩
/-- what stays true where nothing but instances is read in another way -/
theorem ObjOk.swap {S : Addr → Prop} (ht : ∀ b xs, H b = some (.tup xs) → H' b = some (.tup xs)) (ho : ∀ b, H b = some (.own a) → H' b = some (.own a)) : ∀ {o : HO}, ObjOk P w H h a o → ObjOk P w H' h a o
  | .lst xs, x => x
  | .tup xs, x => x
  | .dK kvs, x => x
  | .dT kvs, x => by
    obtain ⟨z, y, xs, r, q⟩ := x
    exact ⟨z, y, xs, r.mono fun p q ⟨e1, e2, e3⟩ => ⟨e1, ht _ _ e2, e3⟩, q⟩
  | .set S n, x => x
  | .ins C dx fs, x => by
    obtain ⟨d, r⟩ := x
    exact ⟨ho _ d, r⟩
  | .own _, x => x
  | .xd fs, x => x
  | .rng lo hi, x => x
  | .frz o u, x => ⟨x.1, ObjOk.swap (S := S) ht ho x.2⟩
  | .tbl ps, x => x
  | .met f x, y => y
  | .ext φ, x => x
end
def conFs (v : V) (L : Addr) : List (Str × V) := [("set_machine", v), ("set_live", .ref L)]
abbrev liFs : List Str := ["kept_machine", "kept_calls"]
structure Four (p d L e : Addr) : Prop where
  dp : d + 1 = p
  eL : e + 1 = L
  pL : p ≠ L
  pe : p ≠ e
  dL : d ≠ L
structure Shut (C2 C1 : Addr) (H : Hp) (p d L e : Addr) (v : V) (ws : List V) : Prop extends Four p d L e where
  hp : H p = some (.ext (inX C2 d p))
  hd : H d = some (.ext (nsX d (conFs v L)))
  hL : H L = some (.ext (inX C1 e L))
  he : H e = some (.ext (nsX e (liFs.zip ws)))
structure Opn (C2 C1 : Addr) (H : Hp) (p d L e : Addr) (v : V) (ws : List V) : Prop extends Four p d L e where
  hp : H p = some (.ins C2 d (conFs v L))
  hd : H d = some (.own p)
  hL : H L = some (.ins C1 e (liFs.zip ws))
  he : H e = some (.own L)
def put4 (H : Hp) (p d L e : Addr) (a b c f : HO) : Hp := fun x => if x = p then some a else if x = d then some b else if x = L then some c else if x = e then some f else H x
section
variable {p d L e : Addr} {H : Hp} {a b c f : HO}
theorem Four.de (F : Four p d L e) : d ≠ e := fun z => F.pL (by rw [← F.dp, ← F.eL, z])
theorem Four.pd (F : Four p d L e) : p ≠ d := fun z => absurd (F.dp.trans z) (Nat.succ_ne_self d)
theorem Four.Le (F : Four p d L e) : L ≠ e := fun z => absurd (F.eL.trans z) (Nat.succ_ne_self e)
theorem put4_p : put4 H p d L e a b c f p = some a := if_pos rfl
theorem put4_d (F : Four p d L e) : put4 H p d L e a b c f d = some b := by unfold put4; rw [if_neg F.pd.symm, if_pos rfl]
theorem put4_L (F : Four p d L e) : put4 H p d L e a b c f L = some c := by unfold put4; rw [if_neg F.pL.symm, if_neg F.dL.symm, if_pos rfl]
theorem put4_e (F : Four p d L e) : put4 H p d L e a b c f e = some f := by unfold put4; rw [if_neg F.pe.symm, if_neg F.de.symm, if_neg F.Le.symm, if_pos rfl]
theorem put4_o {x : Addr} (h1 : x ≠ p) (h2 : x ≠ d) (h3 : x ≠ L) (h4 : x ≠ e) : put4 H p d L e a b c f x = H x := by unfold put4; rw [if_neg h1, if_neg h2, if_neg h3, if_neg h4]
/-- what is said of any other address -/
theorem put4_any (F : Four p d L e) (x : Addr) : x = p ∨ x = d ∨ x = L ∨ x = e ∨ (x ≠ p ∧ x ≠ d ∧ x ≠ L ∧ x ≠ e ∧ put4 H p d L e a b c f x = H x) := by
  by_cases h1 : x = p
  · exact .inl h1
  by_cases h2 : x = d
  · exact .inr (.inl h2)
  by_cases h3 : x = L
  · exact .inr (.inr (.inl h3))
  by_cases h4 : x = e
  · exact .inr (.inr (.inr (.inl h4)))
  exact .inr (.inr (.inr (.inr ⟨h1, h2, h3, h4, put4_o h1 h2 h3 h4⟩)))
end
section
variable {P : Program} {w : World} {C2 C1 : Addr} {H : Hp} {p d L e : Addr} {v : V} {ws : List V}
def opH (C2 C1 : Addr) (H : Hp) (p d L e : Addr) (v : V) (ws : List V) : Hp := put4 H p d L e (.ins C2 d (conFs v L)) (.own p) (.ins C1 e (liFs.zip ws)) (.own L)
def clH (C2 C1 : Addr) (H : Hp) (p d L e : Addr) (v : V) (ws : List V) : Hp := put4 H p d L e (.ext (inX C2 d p)) (.ext (nsX d (conFs v L))) (.ext (inX C1 e L)) (.ext (nsX e (liFs.zip ws)))
theorem Shut.opn (S : Shut C2 C1 H p d L e v ws) : Opn C2 C1 (opH C2 C1 H p d L e v ws) p d L e v ws := ⟨S.toFour, put4_p, put4_d S.toFour, put4_L S.toFour, put4_e S.toFour⟩
theorem Opn.shut (O : Opn C2 C1 H p d L e v ws) : Shut C2 C1 (clH C2 C1 H p d L e v ws) p d L e v ws := ⟨O.toFour, put4_p, put4_d O.toFour, put4_L O.toFour, put4_e O.toFour⟩
theorem zip_len (ws : List V) : (liFs.zip ws).length ≤ 1000 := by
  rw [List.length_zip]
  show min 2 _ ≤ _
  omega
theorem Shut.swap (S : Shut C2 C1 H p d L e v ws) : Swap P w H (opH C2 C1 H p d L e v ws) := by
  have F := S.toFour
  have go : ∀ {x : Addr} {o : HO}, H x = some o → (∀ φ, o ≠ .ext φ) → opH C2 C1 H p d L e v ws x = some o := fun {x o} hx ne => by
    rcases put4_any (H := H) (a := .ins C2 d (conFs v L)) (b := .own p) (c := .ins C1 e (liFs.zip ws)) (f := .own L) F x with rfl | rfl | rfl | rfl | ⟨_, _, _, _, z⟩
    · rw [S.hp] at hx; cases hx; exact absurd rfl (ne _)
    · rw [S.hd] at hx; cases hx; exact absurd rfl (ne _)
    · rw [S.hL] at hx; cases hx; exact absurd rfl (ne _)
    · rw [S.he] at hx; cases hx; exact absurd rfl (ne _)
    · exact z.trans hx
  refine ⟨fun x hx => ?_, fun x xs hx => go hx (fun _ z => nomatch z), fun x o u hx => go hx (fun _ z => nomatch z), fun x ps hx => go hx (fun _ z => nomatch z), fun h ok x o hx => ?_⟩
  · rcases put4_any (H := H) (a := .ins C2 d (conFs v L)) (b := .own p) (c := .ins C1 e (liFs.zip ws)) (f := .own L) F x with rfl | rfl | rfl | rfl | ⟨_, _, _, _, z⟩
    · rw [S.hp] at hx; cases hx
    · rw [S.hd] at hx; cases hx
    · rw [S.hL] at hx; cases hx
    · rw [S.he] at hx; cases hx
    · exact z.trans hx
  · obtain ⟨i1, _, _⟩ : ObjOk P w H h p (.ext (inX C2 d p)) := ok _ _ S.hp
    obtain ⟨i2, ⟨o2, q2⟩, _⟩ : ObjOk P w H h d (.ext (nsX d (conFs v L))) := ok _ _ S.hd
    obtain ⟨i3, _, _⟩ : ObjOk P w H h L (.ext (inX C1 e L)) := ok _ _ S.hL
    obtain ⟨i4, ⟨o4, q4⟩, _⟩ : ObjOk P w H h e (.ext (nsX e (liFs.zip ws))) := ok _ _ S.he
    rcases put4_any (H := H) (a := .ins C2 d (conFs v L)) (b := .own p) (c := .ins C1 e (liFs.zip ws)) (f := .own L) F x with rfl | rfl | rfl | rfl | ⟨_, _, _, _, z⟩
    · have e1 : opH C2 C1 H x d L e v ws x = _ := put4_p
      rw [e1] at hx; cases hx
      exact ⟨put4_d F, by show 2 ≤ 1000; omega, F.pd.symm, i1, i2⟩
    · have e1 : opH C2 C1 H p x L e v ws x = _ := put4_d F
      rw [e1] at hx; cases hx
      exact ⟨o2, q2⟩
    · have e1 : opH C2 C1 H p d x e v ws x = _ := put4_L F
      rw [e1] at hx; cases hx
      exact ⟨put4_e F, zip_len ws, F.Le.symm, i3, i4⟩
    · have e1 : opH C2 C1 H p d L x v ws x = _ := put4_e F
      rw [e1] at hx; cases hx
      exact ⟨o4, q4⟩
    · have e1 : opH C2 C1 H p d L e v ws x = H x := z
      rw [e1] at hx
      exact ObjOk.swap (S := fun _ => True) (fun b xs hb => go hb (fun _ z => nomatch z)) (fun b hb => go hb (fun _ z => nomatch z)) (ok _ _ hx)
theorem Opn.swap (O : Opn C2 C1 H p d L e v ws) : Swap P w H (clH C2 C1 H p d L e v ws) := by
  have F := O.toFour
  have go : ∀ {x : Addr} {o : HO}, H x = some o → (∀ C d fs, o ≠ .ins C d fs) → (o ≠ .own p) → (o ≠ .own L) → clH C2 C1 H p d L e v ws x = some o := fun {x o} hx n1 n2 n3 => by
    rcases put4_any (H := H) (a := .ext (inX C2 d p)) (b := .ext (nsX d (conFs v L))) (c := .ext (inX C1 e L)) (f := .ext (nsX e (liFs.zip ws))) F x with rfl | rfl | rfl | rfl | ⟨_, _, _, _, z⟩
    · rw [O.hp] at hx; cases hx; exact absurd rfl (n1 _ _ _)
    · rw [O.hd] at hx; cases hx; exact absurd rfl n2
    · rw [O.hL] at hx; cases hx; exact absurd rfl (n1 _ _ _)
    · rw [O.he] at hx; cases hx; exact absurd rfl n3
    · exact z.trans hx
  refine ⟨fun x hx => ?_, fun x xs hx => go hx (fun _ _ _ z => nomatch z) (fun z => nomatch z) (fun z => nomatch z), fun x o u hx => go hx (fun _ _ _ z => nomatch z) (fun z => nomatch z) (fun z => nomatch z), fun x ps hx => go hx (fun _ _ _ z => nomatch z) (fun z => nomatch z) (fun z => nomatch z), fun h ok x o hx => ?_⟩
  · rcases put4_any (H := H) (a := .ext (inX C2 d p)) (b := .ext (nsX d (conFs v L))) (c := .ext (inX C1 e L)) (f := .ext (nsX e (liFs.zip ws))) F x with rfl | rfl | rfl | rfl | ⟨_, _, _, _, z⟩
    · rw [O.hp] at hx; cases hx
    · rw [O.hd] at hx; cases hx
    · rw [O.hL] at hx; cases hx
    · rw [O.he] at hx; cases hx
    · exact z.trans hx
  · obtain ⟨_, _, _, i1, i2⟩ : ObjOk P w H h p (.ins C2 d (conFs v L)) := ok _ _ O.hp
    obtain ⟨_, _, _, i3, i4⟩ : ObjOk P w H h L (.ins C1 e (liFs.zip ws)) := ok _ _ O.hL
    rcases put4_any (H := H) (a := .ext (inX C2 d p)) (b := .ext (nsX d (conFs v L))) (c := .ext (inX C1 e L)) (f := .ext (nsX e (liFs.zip ws))) F x with rfl | rfl | rfl | rfl | ⟨n1, _, n3, _, z⟩
    · have e1 : clH C2 C1 H x d L e v ws x = _ := put4_p
      rw [e1] at hx; cases hx
      exact inX_ok i1
    · have e1 : clH C2 C1 H p x L e v ws x = _ := put4_d F
      rw [e1] at hx; cases hx
      exact nsX_ok i2
    · have e1 : clH C2 C1 H p d x e v ws x = _ := put4_L F
      rw [e1] at hx; cases hx
      exact inX_ok i3
    · have e1 : clH C2 C1 H p d L x v ws x = _ := put4_e F
      rw [e1] at hx; cases hx
      exact nsX_ok i4
    · have e1 : clH C2 C1 H p d L e v ws x = H x := z
      rw [e1] at hx
      exact ObjOk.swap (S := fun _ => True) (fun b xs hb => go hb (fun _ _ _ z => nomatch z) (fun z => nomatch z) (fun z => nomatch z))
        (fun b hb => go hb (fun _ _ _ z => nomatch z) (fun z => by cases z; exact n1 rfl) fun z => by cases z; exact n3 rfl) (ok _ _ hx)
end
end CK
namespace CK
open PySem PySem.Spec PyProof.Rows L2
def MK (C2 C1 : Addr) (K : PySem.W.Frag) (G H : Hp) (p : Addr) (x : Inf) : Prop :=
  ∃ d L e v ws ds, Shut C2 C1 H p d L e v ws ∧ G p = none ∧ G d = none ∧ G L = none ∧ G e = none ∧ Rp K G v x.a ∧ RpAll K G ws ds ∧ x.b = .list ds ∧ x.pl = 0
theorem MK.mst {C2 C1 : Addr} {K : PySem.W.Frag} {G G' H H' : Hp} {p : Addr} {x : Inf} (h : MK C2 C1 K G H p x) (s : Same G G') (gn : Gn G H G') (st : ∀ a o, H a = some o → ¬ Soft C1 o → H' a = some o) : MK C2 C1 K G' H' p x := by
  obtain ⟨d, L, e, v, ws, ds, S, g1, g2, g3, g4, r1, r2, e1, e2⟩ := h
  exact ⟨d, L, e, v, ws, ds, ⟨S.toFour, st _ _ S.hp soft_ext, st _ _ S.hd soft_ext, st _ _ S.hL soft_ext, st _ _ S.he soft_ext⟩, gn _ _ S.hp g1, gn _ _ S.hd g2, gn _ _ S.hL g3, gn _ _ S.he g4, r1.same s, r2.same s, e1, e2⟩
/-- an instance: consoles, of the class C2; live machines, of the class C1 -/
def memoK (C2 C1 : Addr) (K : PySem.W.Frag) : Memo := ⟨C1, fun _ _ => True, fun _ _ _ => trivial, fun _ => True, MK C2 C1 K, fun h s gn st => MK.mst h s gn st, fun h => by
  obtain ⟨_, _, _, _, _, _, S, _⟩ := h
  exact .inr ⟨_, S.hp⟩⟩
instance (C2 C1 : Addr) (K : PySem.W.Frag) : Triv (memoK C2 C1 K) := ⟨fun _ _ => trivial⟩
section
variable {C2 C1 : Addr} {K : PySem.W.Frag} {G H : Hp} {σ : SS} {δ : List Sl} {p d L e : Addr} {v : V} {ws : List V} {ds : List PyData} {i j : Nat}
def noMoK (δ : List Sl) : Prop := ∀ (k : Nat) (x : Inf), δ[k]? ≠ some (Sl.mo x)
theorem bx_plain {m1 m2 : Memo} (hc : m1.C = m2.C) {q : Addr} : ∀ {t : Bt} {us : List V}, @Bx m1 H q t us → @Bx m2 H q t us
  | .l, _, h => h
  | .o fs, _, h => by
    obtain ⟨dx, h⟩ := h
    exact ⟨dx, by rw [← hc]; exact h⟩
  | .d ks, _, h => h
theorem set_no {δ : List Sl} {i k : Nat} {s t : Sl} (h : (δ.set i s)[k]? = some t) : (k = i ∧ t = s) ∨ (k ≠ i ∧ δ[k]? = some t) := by
  by_cases hk : k = i
  · subst hk
    have hl : k < δ.length := by
      have := (List.getElem?_eq_some_iff.mp h).1
      simpa using this
    rw [List.getElem?_set_self hl] at h
    cases h
    exact .inl ⟨rfl, rfl⟩
  · rw [List.getElem?_set_ne (Ne.symm hk)] at h
    exact .inr ⟨hk, h⟩
end
end CK
namespace CK
open PySem PySem.Spec PyProof.Rows L2
theorem iteS {α : Type} {c : Prop} [Decidable c] {A : Option α} {y : α} (h : (if c then A else none) = some y) : c ∧ A = some y := by
  by_cases hc : c
  · rw [if_pos hc] at h; exact ⟨hc, h⟩
  · rw [if_neg hc] at h; cases h
def noMoB : List Sl → Bool
  | [] => true
  | .mo _ :: _ => false
  | _ :: r => noMoB r
theorem noMoB_of : ∀ {δ : List Sl}, noMoB δ = true → noMoK δ
  | [], _, k, x, e => by simp at e
  | s :: r, h, 0, x, e => by cases s <;> first | (cases e; done) | cases h
  | s :: r, h, k + 1, x, e => by
    have h2 : noMoB r = true := by cases s <;> first | exact h | cases h
    exact noMoB_of h2 k x e
section
variable {C2 C1 : Addr} {K : PySem.W.Frag} {G H G2 H2 : Hp} {σ σ2 : SS} {δ δ2 : List Sl} {p d L e : Addr} {v : V} {ws : List V} {ds ds2 : List PyData} {i j : Nat}
theorem notOwn {m : Memo} (R : @Rel m K G H σ δ) {x : Addr} {φ : Heap → Prop} (hx : H x = some (.ext φ)) : ¬ Own σ δ x := fun ⟨k, t, ds, h1, h2⟩ => by
  obtain ⟨_, _, rslot, _, _⟩ := R
  obtain ⟨q, us, e1, b, _⟩ := rslot k _ h2
  rw [h1] at e1
  cases e1
  obtain ⟨o, ho, nv, _⟩ := @Bx.at m _ _ _ _ b
  rw [hx] at ho
  cases ho
  exact nv ⟨_, rfl⟩
theorem noMo_set {s : Sl} (h : noMoK δ) (hs : ∀ x, s ≠ .mo x) : noMoK (δ.set i s) := fun k x e => by
  rcases set_no e with ⟨_, z⟩ | ⟨_, z⟩
  · exact hs x z.symm
  · exact h k x z
end
end CK
namespace CK
open PySem PySem.Spec PyProof.Rows L2
section
variable {m1 m2 : Memo} {K : PySem.W.Frag} {G H G' H' Hs : Hp} {σ σ' : SS} {δ δ' : List Sl} {v : V} {r : Sl}
theorem stp_inst [Still m2] (st : @Stp m2 σ δ G H σ' δ' G' H') : @Stp m1 σ δ G H σ' δ' G' H' := by
  obtain ⟨a, b, c, d⟩ := st
  exact @Stp.mk m1 _ _ _ _ _ _ _ _ (fun x o h n => ⟨fun _ => (a x o h n).1 fun z => Still.st x z.2, (a x o h n).2⟩) b c d
end
end CK
namespace CK
open PySem PySem.Spec PyProof.Rows L2
section
variable [mm : Memo]
inductive DCsX (X : Cx) (W : WX) (P : List Nat) : List MatchCase → List (Option Str × Sx) → Prop
  | nil : DCsX X W P [] []
  | val {b j p p' body S cs r} : DXs X W P body S → DCsX X W P cs r → DCsX X W P (⟨.MatchValue (.Constant (.str b) j p) p', none, body⟩ :: cs) ((some b, S) :: r)
  | any {p body S cs r} : DXs X W P body S → DCsX X W P cs r → DCsX X W P (⟨.MatchAs none none p, none, body⟩ :: cs) ((none, S) :: r)
theorem DCsX.to {X : Cx} {W : WX} {P : List Nat} : ∀ {cs : List MatchCase} {r : List (Option Str × Sx)}, DCsX X W P cs r → CasesR X cs (r.map fun x => (x.1, tX X.K X.mg W P x.2))
  | _, _, .nil => trivial
  | _, _, .val h t => ⟨rfl, h, t.to⟩
  | _, _, .any h t => ⟨h, t.to⟩
variable {X : Cx} {W : WX} {P : List Nat} {T S S2 : Sx} {pos : Pos}
end
end CK
namespace CK
open PySem PySem.Spec PyProof.Rows L2
structure Quad where
  p : Addr
  d : Addr
  L : Addr
  e : Addr
def Quad.has (q : Quad) (a : Addr) : Prop := a = q.p ∨ a = q.d ∨ a = q.L ∨ a = q.e
def QApart (q r : Quad) : Prop := ∀ a, q.has a → r.has a → False
def OpnQ (C2 C1 : Addr) (K : PySem.W.Frag) (G H : Hp) (σ : SS) (δ : List Sl) (q : Quad) (x : Inf) : Prop := ∃ v ws ds, Opn C2 C1 H q.p q.d q.L q.e v ws ∧ (∀ a, q.has a → G a = none) ∧ (∀ a, q.has a → ¬ Own σ δ a) ∧ Rp K G v x.a ∧ RpAll K G ws ds ∧ x.b = .list ds ∧ x.pl = 0
section
variable {C2 C1 : Addr} {K : PySem.W.Frag} {G G' H H' G0 H0 : Hp} {σ σ' σ0 : SS} {δ δ' δ0 : List Sl} {q r : Quad} {x y : Inf} {v : V} {ws : List V}
theorem Opn.at {p d L e : Addr} (O : Opn C2 C1 H p d L e v ws) {a : Addr} (h : (Quad.mk p d L e).has a) : ∃ o, H a = some o ∧ ¬ VolO o ∧ (∀ us, o ≠ .lst us) := by
  rcases h with rfl | rfl | rfl | rfl
  · exact ⟨_, O.hp, fun ⟨_, z⟩ => (nomatch z), fun _ z => (nomatch z)⟩
  · exact ⟨_, O.hd, fun ⟨_, z⟩ => (nomatch z), fun _ z => (nomatch z)⟩
  · exact ⟨_, O.hL, fun ⟨_, z⟩ => (nomatch z), fun _ z => (nomatch z)⟩
  · exact ⟨_, O.he, fun ⟨_, z⟩ => (nomatch z), fun _ z => (nomatch z)⟩
theorem Opn.to {p d L e : Addr} (O : Opn C2 C1 H p d L e v ws) (h : ∀ a o, (Quad.mk p d L e).has a → H a = some o → H' a = some o) : Opn C2 C1 H' p d L e v ws :=
  ⟨O.toFour, h _ _ (.inl rfl) O.hp, h _ _ (.inr (.inl rfl)) O.hd, h _ _ (.inr (.inr (.inl rfl))) O.hL, h _ _ (.inr (.inr (.inr rfl))) O.he⟩
theorem OpnQ.at (Q : OpnQ C2 C1 K G H σ δ q x) {a : Addr} (h : q.has a) : ∃ o, H a = some o ∧ ¬ VolO o ∧ (∀ us, o ≠ .lst us) := by
  obtain ⟨v, ws, ds, O, _⟩ := Q
  exact O.at h
theorem OpnQ.keep {m : Memo} (Q : OpnQ C2 C1 K G H σ δ q x) (st : @Stp m σ δ G H σ' δ' G' H') : OpnQ C2 C1 K G' H' σ' δ' q x := by
  obtain ⟨v, ws, ds, O, g, n, rv, ra, e1, e2⟩ := Q
  obtain ⟨keep, dom, same, grow⟩ := st
  refine ⟨v, ws, ds, O.to fun a o h ho => ?_, fun a h => ?_, fun a h => ?_, rv.same same, ra.same same, e1, e2⟩
  · obtain ⟨o', ho', nv, _⟩ := O.at h
    rw [ho] at ho'; cases ho'
    exact (keep a o ho (n a h)).1 fun z => nv z.1
  · obtain ⟨o', ho', nv, _⟩ := O.at h
    cases hz : G' a with
    | none => rfl
    | some u =>
      rcases grow a u hz with z | z | z
      · rw [g a h] at z; cases z
      · rw [ho'] at z; cases z
      · exact absurd z (n a h)
  · obtain ⟨o', ho', nv, _⟩ := O.at h
    exact (keep a o' ho' (n a h)).2
/-- where the heap is the same at its places -/
theorem OpnQ.same (Q : OpnQ C2 C1 K G H σ δ q x) (h : ∀ a, q.has a → H' a = H a) : OpnQ C2 C1 K G H' σ δ q x := by
  obtain ⟨v, ws, ds, O, g, n, rv, ra, e1, e2⟩ := Q
  exact ⟨v, ws, ds, O.to fun a o ha ho => (h a ha).trans ho, g, n, rv, ra, e1, e2⟩
theorem OpnQ.frame (Q : OpnQ C2 C1 K G H σ δ q x) (h : ∀ a, Own σ' δ' a → Own σ δ a) : OpnQ C2 C1 K G H σ' δ' q x := by
  obtain ⟨v, ws, ds, O, g, n, rv, ra, e1, e2⟩ := Q
  exact ⟨v, ws, ds, O, g, fun a ha z => n a ha (h a z), rv, ra, e1, e2⟩
theorem Shut.ext {p d L e : Addr} (S : Shut C2 C1 H p d L e v ws) {a : Addr} (h : (Quad.mk p d L e).has a) : ∃ φ, H a = some (.ext φ) := by
  rcases h with rfl | rfl | rfl | rfl
  · exact ⟨_, S.hp⟩
  · exact ⟨_, S.hd⟩
  · exact ⟨_, S.hL⟩
  · exact ⟨_, S.he⟩
end
end CK
namespace CK
open PySem PySem.Spec PyProof.Rows L2
structure Pair (C2 C1 : Addr) (K : PySem.W.Frag) (σ0 : SS) (δ0 : List Sl) (G0 H0 : Hp) (us : List V) (D p1 p2 : Addr) (x1 x2 : Inf) (G H : Hp) (σ : SS) (δ : List Sl) : Prop where
  R : @Rel (memoK C2 C1 K) K G H σ δ
  nm : noMoK δ
  st : @Stp (memoK C2 C1 K) σ0 δ0 G0 H0 σ δ G H
  lD : H D = some (.lst us)
  nD : ¬ Own σ δ D
  gD : G D = none
  ex : ∃ q1 q2 : Quad, q1.p = p1 ∧ q2.p = p2 ∧ OpnQ C2 C1 K G H σ δ q1 x1 ∧ OpnQ C2 C1 K G H σ δ q2 x2 ∧ QApart q1 q2 ∧ (∀ a, q1.has a → ¬ Own σ0 δ0 a → ∀ o, H0 a = some o → VolO o) ∧ ∀ a, q2.has a → ¬ Own σ0 δ0 a → ∀ o, H0 a = some o → VolO o
section
variable {C2 C1 : Addr} {K : PySem.W.Frag} {G G' H H' G0 H0 : Hp} {σ σ0 : SS} {δ δ' δ0 : List Sl} {x1 x2 : Inf} {us : List V} {D p1 p2 : Addr}
theorem Pair.symm (P : Pair C2 C1 K σ0 δ0 G0 H0 us D p1 p2 x1 x2 G H σ δ) : Pair C2 C1 K σ0 δ0 G0 H0 us D p2 p1 x2 x1 G H σ δ := by
  obtain ⟨R, nm, st, lD, nD, gD, q1, q2, e1, e2, o1, o2, ap, v1, v2⟩ := P
  exact ⟨R, nm, st, lD, nD, gD, q2, q1, e2, e1, o2, o1, fun a h1 h2 => ap a h2 h1, v2, v1⟩
theorem Pair.step (P : Pair C2 C1 K σ0 δ0 G0 H0 us D p1 p2 x1 x2 G H σ δ) (R1 : @Rel (memoK C2 C1 K) K G' H' σ δ') (nm1 : noMoK δ') (st1 : @Stp (memoK C2 C1 K) σ δ G H σ δ' G' H') : Pair C2 C1 K σ0 δ0 G0 H0 us D p1 p2 x1 x2 G' H' σ δ' := by
  letI mm : Memo := memoK C2 C1 K
  obtain ⟨R, nm, st, lD, nD, gD, q1, q2, e1, e2, o1, o2, ap, v1, v2⟩ := P
  obtain ⟨k1, k2⟩ := st1.keep D _ lD nD
  refine ⟨R1, nm1, st.trans st1, k1 fun z => volL z.1, k2, ?_, q1, q2, e1, e2, o1.keep st1, o2.keep st1, ap, v1, v2⟩
  cases hz : G' D with
  | none => rfl
  | some u =>
    rcases st1.grow D u hz with z | z | z
    · rw [gD] at z; cases z
    · rw [lD] at z; cases z
    · exact absurd z nD
theorem Pair.set (P : Pair C2 C1 K σ0 δ0 G0 H0 us D p1 p2 x1 x2 G H σ δ) {i : Nat} {v : V} {d : PyData} (r : Rp K G v d) : Pair C2 C1 K σ0 δ0 G0 H0 us D p1 p2 x1 x2 G H (σ.set i (some v)) (δ.set i (.im d)) := by
  letI mm : Memo := memoK C2 C1 K
  obtain ⟨R, nm, st, lD, nD, gD, q1, q2, e1, e2, o1, o2, ap, v1, v2⟩ := P
  have ow : ∀ a, Own (σ.set i (some v)) (δ.set i (.im d)) a → Own σ δ a := fun a h => by
    rcases own_set R.len h with z | ⟨_, _, _, z⟩
    · exact z
    · cases z
  exact ⟨R.set (i := i) (v := v) (s := .im d) ⟨v, rfl, r⟩ fun _ _ _ z => (nomatch z), noMo_set nm fun _ z => (nomatch z), st.setR R fun _ _ _ z => (nomatch z), lD, fun z => nD (ow _ z), gD, q1, q2, e1, e2, o1.frame ow, o2.frame ow, ap, v1, v2⟩
end
end CK
namespace CK
open PySem PySem.Spec PyProof.Rows L2
def Held (C2 C1 : Addr) (K : PySem.W.Frag) (σ0 : SS) (δ0 : List Sl) (H0 : Hp) (G H : Hp) (σ : SS) (δ : List Sl) (qs : List Quad) (acc : List Inf) : Prop :=
  qs.length = acc.length ∧ (∀ (k : Nat) (q : Quad) (z : Inf), qs[k]? = some q → acc[k]? = some z → OpnQ C2 C1 K G H σ δ q z) ∧ qs.Pairwise QApart ∧ ∀ q ∈ qs, ∀ a, q.has a → ¬ Own σ0 δ0 a → ∀ o, H0 a = some o → VolO o
section
variable {C2 C1 : Addr} {K : PySem.W.Frag} {G G' H H' H0 : Hp} {σ σ' σ0 : SS} {δ δ' δ0 : List Sl} {qs : List Quad} {acc : List Inf}
theorem Held.at (h : Held C2 C1 K σ0 δ0 H0 G H σ δ qs acc) {q : Quad} (hq : q ∈ qs) : ∃ z, OpnQ C2 C1 K G H σ δ q z := by
  obtain ⟨h1, h2, _, _⟩ := h
  obtain ⟨k, hk⟩ := List.mem_iff_getElem?.mp hq
  have hl := (List.getElem?_eq_some_iff.mp hk).1
  exact ⟨_, h2 k q _ hk (List.getElem?_eq_getElem (by omega))⟩
theorem Held.keep {m : Memo} (h : Held C2 C1 K σ0 δ0 H0 G H σ δ qs acc) (st : @Stp m σ δ G H σ' δ' G' H') : Held C2 C1 K σ0 δ0 H0 G' H' σ' δ' qs acc :=
  ⟨h.1, fun k q z h1 h2 => (h.2.1 k q z h1 h2).keep st, h.2.2.1, h.2.2.2⟩
theorem Held.same (h : Held C2 C1 K σ0 δ0 H0 G H σ δ qs acc) (g : ∀ q ∈ qs, ∀ a, q.has a → H' a = H a) : Held C2 C1 K σ0 δ0 H0 G H' σ δ qs acc :=
  ⟨h.1, fun k q z h1 h2 => (h.2.1 k q z h1 h2).same fun a ha => g q (List.mem_of_getElem? h1) a ha, h.2.2.1, h.2.2.2⟩
theorem Held.frame (h : Held C2 C1 K σ0 δ0 H0 G H σ δ qs acc) (g : ∀ a, Own σ' δ' a → Own σ δ a) : Held C2 C1 K σ0 δ0 H0 G H σ' δ' qs acc :=
  ⟨h.1, fun k q z h1 h2 => (h.2.1 k q z h1 h2).frame g, h.2.2.1, h.2.2.2⟩
theorem Held.snoc (h : Held C2 C1 K σ0 δ0 H0 G H σ δ qs acc) {q : Quad} {z : Inf} (o : OpnQ C2 C1 K G H σ δ q z) (ap : ∀ r ∈ qs, QApart r q) (v : ∀ a, q.has a → ¬ Own σ0 δ0 a → ∀ o, H0 a = some o → VolO o) : Held C2 C1 K σ0 δ0 H0 G H σ δ (qs ++ [q]) (acc ++ [z]) := by
  obtain ⟨h1, h2, h3, h4⟩ := h
  refine ⟨by simp [h1], fun k r y e1 e2 => ?_, List.pairwise_append.mpr ⟨h3, List.pairwise_singleton _ _, fun r hr s hs => by
    rw [List.mem_singleton.mp hs]; exact ap r hr⟩, fun r hr => ?_⟩
  · by_cases hk : k < qs.length
    · rw [List.getElem?_append_left hk] at e1
      rw [List.getElem?_append_left (by omega)] at e2
      exact h2 k r y e1 e2
    · rw [List.getElem?_append_right (by omega)] at e1
      rw [List.getElem?_append_right (by omega)] at e2
      have hk0 : k - qs.length = 0 := by
        have := (List.getElem?_eq_some_iff.mp e1).1
        simp at this; omega
      rw [hk0] at e1
      rw [← h1, hk0] at e2
      cases e1; cases e2
      exact o
  · rcases List.mem_append.mp hr with hr | hr
    · exact h4 r hr
    · rw [List.mem_singleton.mp hr]; exact v
end
end CK
namespace CK
open PySem PySem.Spec PyProof.Rows L2
def tElt (K : PySem.W.Frag) (i : Nat) (k : Int) : TE := fun σ H Q => ∃ D us u, σ[i]? = some (some (.ref D)) ∧ H D = some (.lst us) ∧ atI us k = some u ∧ Q u H
section
variable {X : Cx} {a b : Expr} {pos : Pos}
theorem pe_elt (i : Nat) {k : Int} {x : Str} {px : Pos} (hb : PE X b (tC (.int k))) (hN : X.N[i]? = some x := by rfl) (hv : Vis X.env.scope x := by first | exact Or.inl rfl | exact Or.inr (Or.inl rfl) | exact Or.inr (Or.inr rfl)) (hd : (x == ("__debug__" : Str)) = false := by decide)
    (hcd : (x == ("__classdict__" : Str)) = false := by decide) (hs : PlainIx b := by exact fun _ _ => rfl) : PE X (.Subscript (.Name x px) b pos) (tElt X.K i k) :=
  PE.by (pe_ix ix_list (pe_var hN hv hd hcd) hb hs) fun σ H Q h => by
    obtain ⟨D, us, u, h1, h2, h3, q⟩ := h
    exact ⟨_, h1, D, us, k, u, rfl, rfl, SqL.of h2, h3, q⟩
end
end CK
namespace CK
open PySem PySem.Spec PyProof.Rows L2
theorem relMo {m : Memo} {K : PySem.W.Frag} {G H : Hp} {σ : SS} {δ : List Sl} {a : Addr} {x : Inf} {i : Nat} (R : @Rel m K G H σ δ) (hi : i < δ.length) (hm : m.M G H a x) : @Rel m K G H (σ.set i (some (.ref a))) (δ.set i (.mo x)) := by
  refine ⟨R.sub, by simp [R.len], fun j s e => ?_, fun j l p t u ds es h1 h2 h3 h4 => ?_, R.inv⟩
  · by_cases hj : j = i
    · subst hj
      rw [List.getElem?_set_self hi] at e
      cases e
      rw [List.getElem?_set_self (by rw [R.len]; exact hi)]
      exact ⟨a, rfl, hm⟩
    · rw [List.getElem?_set_ne (Ne.symm hj)] at e ⊢
      exact R.slot j s e
  · have hj : j ≠ i := fun z => by
      subst z
      rw [List.getElem?_set_self hi] at h2
      cases h2
    have hl : l ≠ i := fun z => by
      subst z
      rw [List.getElem?_set_self hi] at h4
      cases h4
    rw [List.getElem?_set_ne (Ne.symm hj)] at h1 h2
    rw [List.getElem?_set_ne (Ne.symm hl)] at h3 h4
    exact R.inj j l p t u ds es h1 h2 h3 h4
section
variable {C2 C1 : Addr} {K : PySem.W.Frag} {mg : Str → Option Value} {G G' H H' G1 H1 G3 H3 : Hp} {σ σ' σ1 σ3 : SS} {δ δ' δ1 δ3 : List Sl} {x : Inf} {v : V} {ws : List V} {ds : List PyData} {p d L e a : Addr} {i ie ic : Nat}
theorem Shut.to (S : Shut C2 C1 H p d L e v ws) (h : ∀ a o, (Quad.mk p d L e).has a → H a = some o → H' a = some o) : Shut C2 C1 H' p d L e v ws :=
  ⟨S.toFour, h _ _ (.inl rfl) S.hp, h _ _ (.inr (.inl rfl)) S.hd, h _ _ (.inr (.inr (.inl rfl))) S.hL, h _ _ (.inr (.inr (.inr rfl))) S.he⟩
theorem set_at {α : Type} {σ : List (Option α)} {i : Nat} {u : α} (h : σ[i]? = some (some u)) : σ.set i (some u) = σ := by
  apply List.ext_getElem?
  intro k
  rw [List.getElem?_set]
  by_cases hk : i = k
  · subst hk
    have := (List.getElem?_eq_some_iff.mp h).1
    rw [if_pos rfl, if_pos this, h]
  · rw [if_neg hk]
end
end CK
namespace CK
open PySem PySem.Spec PyProof.Rows L2
def lsX (a : Addr) (xs : List V) : Heap → Prop := fun h => xs.length ≤ sizeLine ∧ ∃ (its : List Value) (n : Nat), Vals xs its ∧ h.get? a = some { cls := .type "list", data := .seq its.toArray n }
section
variable {P : Program} {w : World} {H H' : Hp} {h : Heap} {a : Addr} {xs ys : List V}
theorem lsX_ok (e : lsX a xs h) : ObjOk P w H h a (.ext (lsX a xs)) := by
  obtain ⟨hl, its, n, hv, e⟩ := e
  exact ⟨⟨hl, its, n, hv, e⟩, ⟨_, e⟩, fun h1 h2 ⟨hl, its, n, hv, e⟩ k => ⟨hl, its, n, hv, k _ e⟩⟩
theorem vals_at : ∀ {xs : List V} {its : List Value} {k : Nat} {p : Addr}, Vals xs its → xs[k]? = some (.ref p) → its[k]? = some (.ref p)
  | _, _, k, p, .nil, e => by simp at e
  | _, _, 0, p, .cons r t, e => by
    simp at e
    subst e
    exact congrArg some (show _ = _ from r)
  | _, _, k + 1, p, .cons r t, e => by
    simp at e
    simpa using vals_at t e
theorem lsX_inj (e1 : lsX a xs h) (e2 : lsX a ys h) {k : Nat} {p q : Addr} (h1 : xs[k]? = some (.ref p)) (h2 : ys[k]? = some (.ref q)) : p = q := by
  obtain ⟨_, its, n, hv, e⟩ := e1
  obtain ⟨_, its', n', hv', e'⟩ := e2
  rw [e] at e'
  have e3 := Option.some.inj e'
  have e4 : its.toArray = its'.toArray := by
    have e6 := congrArg PySem.Obj.data e3
    simp only at e6
    injection e6
  have e5 : its = its' := by simpa using congrArg Array.toList e4
  subst e5
  have a1 := vals_at hv h1
  have a2 := vals_at hv' h2
  rw [a1] at a2
  cases a2
  rfl
end
def putL (H : Hp) (l : List (Addr × HO)) : Hp := fun a => match l.lookup a with
  | some o => some o
  | none => H a
def AtL (H : Hp) (l : List (Addr × HO)) : Prop := ∀ p ∈ l, H p.1 = some p.2
def keysA (l : List (Addr × HO)) : List Addr := l.map (·.1)
theorem look_in : ∀ {l : List (Addr × HO)} {a : Addr} {o : HO}, (keysA l).Nodup → (a, o) ∈ l → l.lookup a = some o
  | [], _, _, _, h => (List.not_mem_nil h).elim
  | (b, u) :: r, a, o, nd, h => by
    obtain ⟨n1, n2⟩ := List.nodup_cons.mp nd
    rcases List.mem_cons.mp h with e | h
    · cases e
      simp [List.lookup]
    · have hb : (a == b) = false := by
        have : a ≠ b := fun z => n1 (by rw [← z]; exact List.mem_map.mpr ⟨_, h, rfl⟩)
        simpa using this
      simp only [List.lookup, hb]
      exact look_in n2 h
theorem look_out : ∀ {l : List (Addr × HO)} {a : Addr}, a ∉ keysA l → l.lookup a = none
  | [], _, _ => rfl
  | (b, u) :: r, a, h => by
    have hb : (a == b) = false := by
      have : a ≠ b := fun z => h (by rw [z]; exact List.mem_cons_self)
      simpa using this
    simp only [List.lookup, hb]
    exact look_out fun z => h (List.mem_cons_of_mem _ z)
section
variable {P : Program} {w : World} {H : Hp} {l l1 l2 : List (Addr × HO)} {a : Addr} {o : HO}
theorem putL_in (nd : (keysA l).Nodup) (h : (a, o) ∈ l) : putL H l a = some o := by
  unfold putL
  rw [look_in nd h]
theorem putL_out (h : a ∉ keysA l) : putL H l a = H a := by
  unfold putL
  rw [look_out h]
theorem putL_at (nd : (keysA l).Nodup) : AtL (putL H l) l := fun p hp => putL_in nd hp
theorem key_at (h : a ∈ keysA l) : ∃ o, (a, o) ∈ l := by
  obtain ⟨⟨b, o⟩, hp, rfl⟩ := List.mem_map.mp h
  exact ⟨o, hp⟩
theorem atL_get (h : AtL H l) (ha : a ∈ keysA l) : ∃ o, (a, o) ∈ l ∧ H a = some o := by
  obtain ⟨o, ho⟩ := key_at ha
  exact ⟨o, ho, h _ ho⟩
theorem putL_dom (h : AtL H l1) (k : keysA l1 = keysA l2) (x : Addr) : putL H l2 x = none → H x = none := fun e => by
  unfold putL at e
  split at e
  · cases e
  · exact e
theorem swapL (k : keysA l1 = keysA l2) (nd : (keysA l2).Nodup) (a1 : AtL H l1) (n1 : ∀ p ∈ l1, (∀ xs, p.2 ≠ .tup xs) ∧ (∀ o u, p.2 ≠ .frz o u) ∧ (∀ ps, p.2 ≠ .tbl ps) ∧ ∀ b, p.2 = .own b → b ∈ keysA l1)
    (ok : ∀ h, HOk P w H h → ∀ p ∈ l2, ObjOk P w (putL H l2) h p.1 p.2) : Swap P w H (putL H l2) := by
  have out : ∀ {b : Addr} {u : HO}, H b = some u → (∀ p ∈ l1, p.2 ≠ u) → putL H l2 b = some u := fun {b u} hb hn => by
    rw [putL_out]
    · exact hb
    · intro z
      rw [← k] at z
      obtain ⟨o, ho, e⟩ := atL_get a1 z
      rw [hb] at e
      cases e
      exact hn _ ho rfl
  refine ⟨fun b hb => ?_, fun b xs hb => out hb fun p hp z => (n1 p hp).1 xs z, fun b o u hb => out hb fun p hp z => (n1 p hp).2.1 o u z, fun b ps hb => out hb fun p hp z => (n1 p hp).2.2.1 ps z, fun h hok x o hx => ?_⟩
  · rw [putL_out]
    · exact hb
    · intro z
      rw [← k] at z
      obtain ⟨o, _, e⟩ := atL_get a1 z
      rw [hb] at e
      cases e
  · by_cases hk : x ∈ keysA l2
    · obtain ⟨u, hu⟩ := key_at hk
      rw [putL_in nd hu] at hx
      cases hx
      exact ok h hok _ hu
    · rw [putL_out hk] at hx
      exact ObjOk.swap (S := fun _ => True) (fun b xs hb => out hb fun p hp z => (n1 p hp).1 xs z) (fun b hb => out hb fun p hp z => hk (by rw [← k]; exact (n1 p hp).2.2.2 _ z)) (hok _ _ hx)
end
structure FRow where
  r : Addr
  o : Addr
  d : Addr
  fs : List V
  c : V
def fOp (C pf : Addr) (F : List FRow) : List (Addr × HO) := (pf, .lst (F.map fun x => .ref x.r)) :: F.flatMap fun x => [(x.r, .lst [.ref x.o, x.c]), (x.o, .ins C x.d (liFs.zip x.fs)), (x.d, .own x.o)]
def fSh (C pf : Addr) (F : List FRow) : List (Addr × HO) := (pf, .ext (lsX pf (F.map fun x => .ref x.r))) :: F.flatMap fun x => [(x.r, .ext (lsX x.r [.ref x.o, x.c])), (x.o, .ext (inX C x.d x.o)), (x.d, .ext (nsX x.d (liFs.zip x.fs)))]
def FAd (pf : Addr) (F : List FRow) : List Addr := pf :: F.flatMap fun x => [x.r, x.o, x.d]
theorem keys_op (C pf : Addr) (F : List FRow) : keysA (fOp C pf F) = FAd pf F := by
  unfold keysA fOp FAd
  rw [List.map_cons, List.map_flatMap]
  rfl
theorem keys_sh (C pf : Addr) (F : List FRow) : keysA (fSh C pf F) = FAd pf F := by
  unfold keysA fSh FAd
  rw [List.map_cons, List.map_flatMap]
  rfl
structure FBase (Ev : Addr → Prop) (pf : Addr) (F : List FRow) : Prop where
  nd : (FAd pf F).Nodup
  dp : ∀ x ∈ F, x.d + 1 = x.o
  ln : F.length ≤ sizeLine
  w : ∀ a ∈ FAd pf F, ¬ Ev a
structure FamS (Ev : Addr → Prop) (C pf : Addr) (H : Hp) (F : List FRow) : Prop extends FBase Ev pf F where
  at' : AtL H (fSh C pf F)
  e : ∀ a, Ev a → ∃ φ, H a = some (.ext φ)
structure FamO (Ev : Addr → Prop) (C pf : Addr) (H : Hp) (F : List FRow) : Prop extends FBase Ev pf F where
  at' : AtL H (fOp C pf F)
  e : ∀ a, Ev a → ∃ φ, H a = some (.ext φ)
theorem op_mem {C pf : Addr} {F : List FRow} {p : Addr × HO} (h : p ∈ fOp C pf F) : p = (pf, .lst (F.map fun x => .ref x.r)) ∨ ∃ x ∈ F, p = (x.r, .lst [.ref x.o, x.c]) ∨ p = (x.o, .ins C x.d (liFs.zip x.fs)) ∨ p = (x.d, .own x.o) := by
  rcases List.mem_cons.mp h with e | h
  · exact .inl e
  · obtain ⟨x, hx, h⟩ := List.mem_flatMap.mp h
    simp only [List.mem_cons, List.not_mem_nil, or_false] at h
    exact .inr ⟨x, hx, h⟩
theorem sh_mem {C pf : Addr} {F : List FRow} {p : Addr × HO} (h : p ∈ fSh C pf F) : p = (pf, .ext (lsX pf (F.map fun x => .ref x.r))) ∨ ∃ x ∈ F, p = (x.r, .ext (lsX x.r [.ref x.o, x.c])) ∨ p = (x.o, .ext (inX C x.d x.o)) ∨ p = (x.d, .ext (nsX x.d (liFs.zip x.fs))) := by
  rcases List.mem_cons.mp h with e | h
  · exact .inl e
  · obtain ⟨x, hx, h⟩ := List.mem_flatMap.mp h
    simp only [List.mem_cons, List.not_mem_nil, or_false] at h
    exact .inr ⟨x, hx, h⟩
section
variable {P : Program} {w : World} {Ev : Addr → Prop} {C pf : Addr} {H : Hp} {F : List FRow} {x : FRow}
theorem op_l : (pf, HO.lst (F.map fun x => .ref x.r)) ∈ fOp C pf F := List.mem_cons_self
theorem op_r (h : x ∈ F) : (x.r, HO.lst [.ref x.o, x.c]) ∈ fOp C pf F := List.mem_cons_of_mem _ (List.mem_flatMap.mpr ⟨x, h, by simp⟩)
theorem op_o (h : x ∈ F) : (x.o, HO.ins C x.d (liFs.zip x.fs)) ∈ fOp C pf F := List.mem_cons_of_mem _ (List.mem_flatMap.mpr ⟨x, h, by simp⟩)
theorem op_d (h : x ∈ F) : (x.d, HO.own x.o) ∈ fOp C pf F := List.mem_cons_of_mem _ (List.mem_flatMap.mpr ⟨x, h, by simp⟩)
theorem sh_l : (pf, HO.ext (lsX pf (F.map fun x => .ref x.r))) ∈ fSh C pf F := List.mem_cons_self
theorem sh_r (h : x ∈ F) : (x.r, HO.ext (lsX x.r [.ref x.o, x.c])) ∈ fSh C pf F := List.mem_cons_of_mem _ (List.mem_flatMap.mpr ⟨x, h, by simp⟩)
theorem sh_o (h : x ∈ F) : (x.o, HO.ext (inX C x.d x.o)) ∈ fSh C pf F := List.mem_cons_of_mem _ (List.mem_flatMap.mpr ⟨x, h, by simp⟩)
theorem sh_d (h : x ∈ F) : (x.d, HO.ext (nsX x.d (liFs.zip x.fs))) ∈ fSh C pf F := List.mem_cons_of_mem _ (List.mem_flatMap.mpr ⟨x, h, by simp⟩)
theorem ad_r (h : x ∈ F) : x.r ∈ FAd pf F := List.mem_cons_of_mem _ (List.mem_flatMap.mpr ⟨x, h, by simp⟩)
theorem ad_o (h : x ∈ F) : x.o ∈ FAd pf F := List.mem_cons_of_mem _ (List.mem_flatMap.mpr ⟨x, h, by simp⟩)
theorem ad_d (h : x ∈ F) : x.d ∈ FAd pf F := List.mem_cons_of_mem _ (List.mem_flatMap.mpr ⟨x, h, by simp⟩)
theorem FamS.ext (S : FamS Ev C pf H F) {a : Addr} (h : a ∈ FAd pf F) : ∃ φ, H a = some (.ext φ) := by
  rw [← keys_sh C] at h
  obtain ⟨o, ho, e⟩ := atL_get S.at' h
  rcases sh_mem ho with z | ⟨x, _, z | z | z⟩ <;> (cases z; exact ⟨_, e⟩)
theorem FamO.nov (S : FamO Ev C pf H F) {a : Addr} (h : a ∈ FAd pf F) : ∃ o, H a = some o ∧ ¬ VolO o := by
  rw [← keys_op C] at h
  obtain ⟨o, ho, e⟩ := atL_get S.at' h
  refine ⟨o, e, ?_⟩
  rcases op_mem ho with z | ⟨x, _, z | z | z⟩ <;> (cases z; exact fun ⟨_, y⟩ => (nomatch y))
theorem FamS.opn (S : FamS Ev C pf H F) : FamO Ev C pf (putL H (fOp C pf F)) F := ⟨S.toFBase, putL_at (by rw [keys_op]; exact S.nd), fun a ha => by rw [putL_out (by rw [keys_op]; exact fun z => S.w a z ha)]; exact S.e a ha⟩
theorem FamO.shut (S : FamO Ev C pf H F) : FamS Ev C pf (putL H (fSh C pf F)) F := ⟨S.toFBase, putL_at (by rw [keys_sh]; exact S.nd), fun a ha => by rw [putL_out (by rw [keys_sh]; exact fun z => S.w a z ha)]; exact S.e a ha⟩
theorem dne {x : FRow} (h : x.d + 1 = x.o) : x.d ≠ x.o := fun z => absurd (h.trans z.symm) (Nat.succ_ne_self _)
theorem FamS.swap (S : FamS Ev C pf H F) : Swap P w H (putL H (fOp C pf F)) := by
  refine swapL (l1 := fSh C pf F) (by rw [keys_op, keys_sh]) (by rw [keys_op]; exact S.nd) S.at' (fun p hp => ?_) fun h hok p hp => ?_
  · rcases sh_mem hp with rfl | ⟨x, _, rfl | rfl | rfl⟩ <;> exact ⟨fun _ z => (nomatch z), fun _ _ z => (nomatch z), fun _ z => (nomatch z), fun _ z => (nomatch z)⟩
  · rcases op_mem hp with rfl | ⟨x, hx, rfl | rfl | rfl⟩
    · obtain ⟨i, _, _⟩ : ObjOk P w H h pf (.ext (lsX pf (F.map fun x => .ref x.r))) := hok _ _ (S.at' _ sh_l)
      exact i
    · obtain ⟨i, _, _⟩ : ObjOk P w H h x.r (.ext (lsX x.r [.ref x.o, x.c])) := hok _ _ (S.at' _ (sh_r hx))
      exact i
    · obtain ⟨i1, _, _⟩ : ObjOk P w H h x.o (.ext (inX C x.d x.o)) := hok _ _ (S.at' _ (sh_o hx))
      obtain ⟨i2, _, _⟩ : ObjOk P w H h x.d (.ext (nsX x.d (liFs.zip x.fs))) := hok _ _ (S.at' _ (sh_d hx))
      exact ⟨putL_in (by rw [keys_op]; exact S.nd) (op_d hx), zip_len _, dne (S.dp x hx), i1, i2⟩
    · obtain ⟨_, ⟨o, q⟩, _⟩ : ObjOk P w H h x.d (.ext (nsX x.d (liFs.zip x.fs))) := hok _ _ (S.at' _ (sh_d hx))
      exact ⟨o, q⟩
theorem FamO.swap (S : FamO Ev C pf H F) : Swap P w H (putL H (fSh C pf F)) := by
  refine swapL (l1 := fOp C pf F) (by rw [keys_op, keys_sh]) (by rw [keys_sh]; exact S.nd) S.at' (fun p hp => ?_) fun h hok p hp => ?_
  · rcases op_mem hp with rfl | ⟨x, hx, rfl | rfl | rfl⟩
    · exact ⟨fun _ z => (nomatch z), fun _ _ z => (nomatch z), fun _ z => (nomatch z), fun _ z => (nomatch z)⟩
    · exact ⟨fun _ z => (nomatch z), fun _ _ z => (nomatch z), fun _ z => (nomatch z), fun _ z => (nomatch z)⟩
    · exact ⟨fun _ z => (nomatch z), fun _ _ z => (nomatch z), fun _ z => (nomatch z), fun _ z => (nomatch z)⟩
    · exact ⟨fun _ z => (nomatch z), fun _ _ z => (nomatch z), fun _ z => (nomatch z), fun b z => by cases z; rw [keys_op]; exact ad_o hx⟩
  · rcases sh_mem hp with rfl | ⟨x, hx, rfl | rfl | rfl⟩
    · exact lsX_ok (show ObjOk P w H h pf (.lst _) from hok _ _ (S.at' _ op_l))
    · exact lsX_ok (show ObjOk P w H h x.r (.lst _) from hok _ _ (S.at' _ (op_r hx)))
    · obtain ⟨_, _, _, i1, i2⟩ : ObjOk P w H h x.o (.ins C x.d (liFs.zip x.fs)) := hok _ _ (S.at' _ (op_o hx))
      exact inX_ok i1
    · obtain ⟨_, _, _, i1, i2⟩ : ObjOk P w H h x.o (.ins C x.d (liFs.zip x.fs)) := hok _ _ (S.at' _ (op_o hx))
      exact nsX_ok i2
end
end CK
namespace CK
open PySem PySem.Spec PyProof.Rows L2
abbrev LD := List (List PyData × PyData)
def famI (L : LD) : Inf := ⟨0, .none, .list (L.map fun x => .list [.list x.1, x.2])⟩
def rowI (k : Nat) : Inf := ⟨1, .int k, .none⟩
def FD (K : PySem.W.Frag) (G : Hp) (F : List FRow) (L : LD) : Prop := F.length = L.length ∧ ∀ (k : Nat) (x : FRow) (y : List PyData × PyData), F[k]? = some x → L[k]? = some y → RpAll K G x.fs y.1 ∧ Rp K G x.c y.2
theorem FD.same {K : PySem.W.Frag} {G G' : Hp} {F : List FRow} {L : LD} (h : FD K G F L) (s : Same G G') : FD K G' F L := ⟨h.1, fun k x y h1 h2 => ⟨(h.2 k x y h1 h2).1.same s, (h.2 k x y h1 h2).2.same s⟩⟩
theorem FD.row {K : PySem.W.Frag} {G : Hp} {F : List FRow} {L : LD} (h : FD K G F L) {k : Nat} {y : List PyData × PyData} (e : L[k]? = some y) : ∃ x, F[k]? = some x ∧ x ∈ F ∧ RpAll K G x.fs y.1 ∧ Rp K G x.c y.2 := by
  have hl := (List.getElem?_eq_some_iff.mp e).1
  have hl2 : k < F.length := by rw [h.1]; exact hl
  have hx : F[k]? = some F[k] := List.getElem?_eq_getElem hl2
  exact ⟨_, hx, List.mem_of_getElem? hx, h.2 k _ y hx e⟩
def MF (Ev : Addr → Prop) (C pf : Addr) (K : PySem.W.Frag) (G H : Hp) (p : Addr) (x : Inf) : Prop :=
  (p = pf ∧ ∃ F L, x = famI L ∧ FamS Ev C pf H F ∧ (∀ a ∈ FAd pf F, G a = none) ∧ FD K G F L) ∨
  ∃ ys k φ, x = rowI k ∧ H pf = some (.ext (lsX pf ys)) ∧ ys[k]? = some (.ref p) ∧ H p = some (.ext φ) ∧ G p = none
theorem MF.mst {Ev : Addr → Prop} {C pf : Addr} {K : PySem.W.Frag} {G G' H H' : Hp} {p : Addr} {x : Inf} (h : MF Ev C pf K G H p x) (s : Same G G') (gn : Gn G H G') (st : ∀ a o, H a = some o → ¬ Soft C o → H' a = some o) : MF Ev C pf K G' H' p x := by
  rcases h with ⟨e, F, L, ex, S, g, fd⟩ | ⟨ys, k, φ, ex, h1, h2, h3, h4⟩
  · refine .inl ⟨e, F, L, ex, ⟨S.toFBase, fun q hq => ?_, fun a ha => by obtain ⟨φ, hφ⟩ := S.e a ha; exact ⟨φ, st _ _ hφ soft_ext⟩⟩, fun a ha => ?_, fd.same s⟩
    · refine st _ _ (S.at' q hq) ?_
      rcases sh_mem hq with rfl | ⟨x, _, rfl | rfl | rfl⟩ <;> exact soft_ext
    · obtain ⟨φ, hφ⟩ := S.ext ha
      exact gn _ _ hφ (g a ha)
  · exact .inr ⟨ys, k, φ, ex, st _ _ h1 soft_ext, h2, st _ _ h3 soft_ext, gn _ _ h3 h4⟩
/-- the instance: the family at pf -/
def memoF (Ev : Addr → Prop) (C pf : Addr) (K : PySem.W.Frag) : Memo := ⟨C, fun _ _ => True, fun _ _ _ => trivial, fun a => ¬ Ev a, MF Ev C pf K, fun h s gn st => MF.mst h s gn st, fun h => by
  rcases h with ⟨e, F, L, _, S, _⟩ | ⟨_, _, φ, _, _, _, h3, _⟩
  · rw [e]; exact .inr ⟨_, S.at' _ sh_l⟩
  · exact .inr ⟨φ, h3⟩⟩
instance (Ev : Addr → Prop) (C pf : Addr) (K : PySem.W.Frag) : Triv (memoF Ev C pf K) := ⟨fun _ _ => trivial⟩
/-- what a slot holds -/
def rowD? : PyData → Option (List PyData × PyData)
  | .list [.list ds, c] => some (ds, c)
  | _ => none
def rowsD? : List PyData → Option LD
  | [] => some []
  | d :: r => (rowD? d).bind fun y => (rowsD? r).bind fun l => some (y :: l)
def famL : Option Sl → Option LD
  | some (.mo ⟨0, .none, .list l⟩) => rowsD? l
  | _ => none
def rowK : Option Sl → Option Nat
  | some (.mo ⟨1, .int k, .none⟩) => if 0 ≤ k then some k.toNat else none
  | _ => none
theorem rowsD_map : ∀ L : LD, rowsD? (L.map fun x => .list [.list x.1, x.2]) = some L
  | [] => rfl
  | y :: L => by
    show ((rowD? (.list [.list y.1, y.2])).bind fun z => (rowsD? (L.map fun x => .list [.list x.1, x.2])).bind fun l => some (z :: l)) = _
    rw [rowsD_map L]
    rfl
theorem famL_mo (L : LD) : famL (some (.mo (famI L))) = some L := rowsD_map L
theorem rowK_mo (k : Nat) : rowK (some (.mo (rowI k))) = some k := by
  show (if (0 : Int) ≤ (k : Int) then some ((k : Int).toNat) else none) = some k
  rw [if_pos (Int.natCast_nonneg k)]
  rfl
theorem rowsD_eq : ∀ {l : List PyData} {L : LD}, rowsD? l = some L → l = L.map fun x => .list [.list x.1, x.2]
  | [], L, h => by cases h; rfl
  | d :: r, L, h => by
    obtain ⟨y, h1, h⟩ := bind_some_of (show ((rowD? d).bind fun y => (rowsD? r).bind fun l => some (y :: l)) = some L from h)
    obtain ⟨l, h2, h⟩ := bind_some_of h
    cases h
    have e1 : d = .list [.list y.1, y.2] := by
      unfold rowD? at h1
      split at h1
      · cases h1; rfl
      · cases h1
    rw [e1, rowsD_eq h2]
    rfl
theorem famL_eq {o : Option Sl} {L : LD} (h : famL o = some L) : o = some (.mo (famI L)) := by
  unfold famL at h
  split at h
  · rename_i l
    rw [rowsD_eq h]
    rfl
  · cases h
theorem rowK_eq {o : Option Sl} {k : Nat} (h : rowK o = some k) : o = some (.mo (rowI k)) := by
  unfold rowK at h
  split at h
  · rename_i z
    obtain ⟨hz, h⟩ := iteS h
    cases h
    show _ = some (Sl.mo ⟨1, .int ((z.toNat : Nat) : Int), .none⟩)
    rw [Int.toNat_of_nonneg hz]
  · cases h
section
variable {K : PySem.W.Frag} {G G' H H' G0 H0 : Hp} {σ σ' σ0 : SS} {δ δ' δ0 : List Sl}
theorem rel_to {m1 m2 : Memo} [Triv m2] (hc : m1.C = m2.C) (R : @Rel m1 K G H σ δ) (sub : Same G H') (ow : ∀ a, Own σ δ a → H' a = H a) (nm : noMoK δ') (hl : δ'.length = δ.length) (hs : ∀ (k : Nat) (s : Sl), δ'[k]? = some s → s = .no ∨ δ[k]? = some s) : @Rel m2 K G H' σ δ' := by
  obtain ⟨rsub, rlen, rslot, rinj, _⟩ := R
  have bx : ∀ {k : Nat} {t : Bt} {ds : List PyData}, δ'[k]? = some (.bx t ds) → δ[k]? = some (.bx t ds) := fun {k t ds} h => by
    rcases hs k _ h with z | z
    · cases z
    · exact z
  refine @Rel.mk m2 K G H' σ δ' sub (by rw [hl]; exact rlen) (fun k s h => ?_) (fun i j p t u ds es h1 h2 h3 h4 => rinj i j p t u ds es h1 (bx h2) h3 (bx h4)) (Triv.all (m := m2) G H')
  rcases hs k s h with rfl | h'
  · trivial
  · have hsl := rslot k s h'
    cases s with
    | mo z => exact absurd h (nm k z)
    | no => trivial
    | im dd => exact hsl
    | fz dd => exact hsl
    | raw u => exact hsl
    | bx t dd =>
      obtain ⟨p, us, e1, b, g, ra⟩ := hsl
      obtain ⟨o, ho, nv, kb⟩ := @Bx.at m1 _ _ _ _ b
      exact ⟨p, us, e1, bx_plain (m1 := m1) (m2 := m2) hc (kb _ ((ow p ⟨k, t, dd, getD_some e1, h'⟩).trans ho)), g, ra⟩
end
end CK
namespace CK
open PySem PySem.Spec PyProof.Rows L2
structure OpnF (Ev : Addr → Prop) (C pf : Addr) (K : PySem.W.Frag) (σ0 : SS) (δ0 : List Sl) (G0 H0 : Hp) (F : List FRow) (L : LD) (G H : Hp) (σ : SS) (δ : List Sl) : Prop where
  R : @Rel (plainAt C) K G H σ δ
  nm : noMoK δ
  st : @Stp (memoF Ev C pf K) σ0 δ0 G0 H0 σ δ G H
  O : FamO Ev C pf H F
  g : ∀ a ∈ FAd pf F, G a = none
  n : ∀ a ∈ FAd pf F, ¬ Own σ δ a
  fd : FD K G F L
  v : ∀ a ∈ FAd pf F, ¬ Own σ0 δ0 a → ∀ o, H0 a = some o → VolO o
section
variable {Ev : Addr → Prop} {C pf : Addr} {K : PySem.W.Frag} {G G' H H' G0 H0 : Hp} {σ σ' σ0 : SS} {δ δ' δ0 : List Sl} {F : List FRow} {L : LD} {f j k : Nat}
theorem fam_at {R : @Rel (memoF Ev C pf K) K G H σ δ} (hf : famL δ[f]? = some L) : σ[f]? = some (some (.ref pf)) ∧ ∃ F, FamS Ev C pf H F ∧ (∀ a ∈ FAd pf F, G a = none) ∧ FD K G F L := by
  obtain ⟨rsub, rlen, rslot, rinj, _⟩ := R
  obtain ⟨p, e1, m⟩ := rslot f _ (famL_eq hf)
  rcases m with ⟨rfl, F, L', ex, S, g, fd⟩ | ⟨ys, k, φ, ex, _⟩
  · have e := famL_mo L
    rw [ex, famL_mo L'] at e
    cases e
    exact ⟨getD_some e1, F, S, g, fd⟩
  · cases ex
theorem row_at {P : Program} {w : World} {h : Heap} (ok : HOk P w H h) {R : @Rel (memoF Ev C pf K) K G H σ δ} (S : FamS Ev C pf H F) (hj : rowK δ[j]? = some k) {x : FRow} (hx : F[k]? = some x) : σ[j]? = some (some (.ref x.r)) := by
  obtain ⟨rsub, rlen, rslot, rinj, _⟩ := R
  obtain ⟨p, e1, m⟩ := rslot j _ (rowK_eq hj)
  rcases m with ⟨_, F', L', ex, _⟩ | ⟨ys, k', φ, ex, h1, h2, _⟩
  · cases ex
  · have hk : k' = k := by
      have := congrArg Inf.a ex
      have e : (PyData.int (k : Int)) = .int (k' : Int) := this
      injection e with e
      omega
    subst hk
    have hp := S.at' _ sh_l
    have hp : H pf = some (.ext (lsX pf (F.map fun x => .ref x.r))) := hp
    obtain ⟨i1, _, _⟩ : ObjOk P w H h pf (.ext (lsX pf (F.map fun x => .ref x.r))) := ok _ _ hp
    obtain ⟨i2, _, _⟩ : ObjOk P w H h pf (.ext (lsX pf ys)) := ok _ _ h1
    have hm : (F.map fun x => V.ref x.r)[k']? = some (.ref x.r) := by rw [List.getElem?_map, hx]; rfl
    rw [lsX_inj i1 i2 hm h2]
    exact getD_some e1
/-- the slots with neither the family nor a row -/
def clr (f j : Nat) (δ : List Sl) : List Sl := (δ.set f .no).set j .no
theorem clr_get {k : Nat} {s : Sl} (h : (clr f j δ)[k]? = some s) : s = .no ∨ (k ≠ f ∧ k ≠ j ∧ δ[k]? = some s) := by
  unfold clr at h
  rcases set_no h with ⟨_, z⟩ | ⟨n1, h⟩
  · exact .inl z
  · rcases set_no h with ⟨_, z⟩ | ⟨n2, h⟩
    · exact .inl z
    · exact .inr ⟨n2, n1, h⟩
theorem fam_open (R : @Rel (memoF Ev C pf K) K G H σ δ) (S : FamS Ev C pf H F) (g : ∀ a ∈ FAd pf F, G a = none) (fd : FD K G F L) (nm : noMoK (clr f j δ)) :
    (∀ (P : Program) (w : World), Swap P w H (putL H (fOp C pf F))) ∧ OpnF Ev C pf K σ δ G H F L G (putL H (fOp C pf F)) σ (clr f j δ) := by
  have out : ∀ {a : Addr}, a ∉ FAd pf F → putL H (fOp C pf F) a = H a := fun {a} h => putL_out (by rw [keys_op]; exact h)
  have nown : ∀ {a : Addr}, a ∈ FAd pf F → ¬ Own σ δ a := fun {a} h => by
    obtain ⟨φ, hφ⟩ := S.ext h
    exact notOwn R hφ
  have ow : ∀ {a : Addr}, Own σ (clr f j δ) a → Own σ δ a := fun {a} ⟨i, t, ds, h1, h2⟩ => by
    rcases clr_get h2 with z | ⟨_, _, z⟩
    · cases z
    · exact ⟨i, t, ds, h1, z⟩
  have R' : @Rel (plainAt C) K G (putL H (fOp C pf F)) σ (clr f j δ) := rel_to (m1 := memoF Ev C pf K) (m2 := plainAt C) rfl R (fun a o ha => by
      rw [out]
      · obtain ⟨rsub, _⟩ := R
        exact rsub _ _ ha
      · intro z
        rw [g a z] at ha; cases ha) (fun a ha => out fun z => nown z ha) nm (by unfold clr; simp) fun k s hs => (clr_get hs).imp id fun z => z.2.2
  refine ⟨fun P w => S.swap, R', nm, @Stp.mk (memoF Ev C pf K) _ _ _ _ _ _ _ _ (fun a o ha hn => ⟨fun nv => ?_, fun z => hn (ow z)⟩) (fun a ha => ?_) (Same.refl _) (fun a o ha => .inl ha), S.opn, g, fun a ha z => nown ha (ow z), fd, fun a ha _ o ho => ?_⟩
  · rw [out]
    · exact ha
    · intro z
      obtain ⟨φ, hφ⟩ := S.ext z
      rw [ha] at hφ
      cases hφ
      exact nv ⟨⟨_, rfl⟩, S.w _ z⟩
  · exact putL_dom S.at' (by rw [keys_op, keys_sh]) a ha
  · obtain ⟨φ, hφ⟩ := S.ext ha
    rw [ho] at hφ
    cases hφ
    exact ⟨_, rfl⟩
theorem FamO.to (O : FamO Ev C pf H F) (h : ∀ a o, a ∈ FAd pf F → H a = some o → H' a = some o) (he : ∀ a φ, Ev a → H a = some (.ext φ) → H' a = some (.ext φ)) : FamO Ev C pf H' F :=
  ⟨O.toFBase, fun p hp => h _ _ (by rw [← keys_op C]; exact List.mem_map.mpr ⟨p, hp, rfl⟩) (O.at' p hp), fun a ha => by
    obtain ⟨φ, hφ⟩ := O.e a ha
    exact ⟨φ, he a φ ha hφ⟩⟩
theorem OpnF.step (Q : OpnF Ev C pf K σ0 δ0 G0 H0 F L G H σ δ) (R1 : @Rel (plainAt C) K G' H' σ' δ') (nm1 : noMoK δ') (st1 : @Stp (plainAt C) σ δ G H σ' δ' G' H') : OpnF Ev C pf K σ0 δ0 G0 H0 F L G' H' σ' δ' := by
  have st1' : @Stp (memoF Ev C pf K) σ δ G H σ' δ' G' H' := stp_inst (m1 := memoF Ev C pf K) (m2 := plainAt C) st1
  have hk : ∀ a o, a ∈ FAd pf F → H a = some o → H' a = some o := fun a o ha ho => by
    obtain ⟨keep, _⟩ := st1
    exact (keep a o ho (Q.n a ha)).1 fun z => z.2
  refine ⟨R1, nm1, @Stp.trans (memoF Ev C pf K) _ _ _ _ _ _ _ _ _ _ _ _ Q.st st1', Q.O.to hk (fun a φ _ hφ => by
      have R := Q.R
      obtain ⟨keep, _⟩ := st1
      exact (keep a _ hφ (notOwn R hφ)).1 fun z => z.2), fun a ha => ?_, fun a ha => ?_, ?_, Q.v⟩
  · obtain ⟨o, ho, _⟩ := Q.O.nov ha
    obtain ⟨keep, dom, same, grow⟩ := st1
    cases hz : G' a with
    | none => rfl
    | some u =>
      rcases grow a u hz with z | z | z
      · rw [Q.g a ha] at z; cases z
      · rw [ho] at z; cases z
      · exact absurd z (Q.n a ha)
  · obtain ⟨o, ho, _⟩ := Q.O.nov ha
    obtain ⟨keep, dom, same, grow⟩ := st1
    exact (keep a o ho (Q.n a ha)).2
  · obtain ⟨keep, dom, same, grow⟩ := st1
    exact Q.fd.same same
/-- closed again -/
theorem OpnF.close (Q : OpnF Ev C pf K σ0 δ0 G0 H0 F L G H σ δ) :
    (∀ (P : Program) (w : World), Swap P w H (putL H (fSh C pf F))) ∧ @Rel (memoF Ev C pf K) K G (putL H (fSh C pf F)) σ δ ∧ @Stp (memoF Ev C pf K) σ0 δ0 G0 H0 σ δ G (putL H (fSh C pf F)) ∧ MF Ev C pf K G (putL H (fSh C pf F)) pf (famI L) ∧
      ∀ (k : Nat) (x : FRow), F[k]? = some x → MF Ev C pf K G (putL H (fSh C pf F)) x.r (rowI k) := by
  have out : ∀ {a : Addr}, a ∉ FAd pf F → putL H (fSh C pf F) a = H a := fun {a} h => putL_out (by rw [keys_sh]; exact h)
  have R' : @Rel (memoF Ev C pf K) K G (putL H (fSh C pf F)) σ δ := rel_to (m1 := plainAt C) (m2 := memoF Ev C pf K) rfl Q.R (fun a o ha => by
      rw [out]
      · have R := Q.R
        obtain ⟨rsub, _⟩ := R
        exact rsub _ _ ha
      · intro z
        rw [Q.g a z] at ha; cases ha) (fun a ha => out fun z => Q.n a z ha) Q.nm rfl fun k s hs => .inr hs
  have S := Q.O.shut
  refine ⟨fun P w => Q.O.swap, R', ?_, .inl ⟨rfl, F, L, rfl, S, Q.g, Q.fd⟩, fun k x hx => ?_⟩
  · obtain ⟨keep, dom, same, grow⟩ := Q.st
    refine @Stp.mk (memoF Ev C pf K) _ _ _ _ _ _ _ _ (fun a o ha hn => ⟨fun nv => ?_, (keep a o ha hn).2⟩) (fun a ha => ?_) same grow
    · by_cases hk : a ∈ FAd pf F
      · exact absurd ⟨Q.v a hk hn o ha, Q.O.w a hk⟩ nv
      · rw [out hk]; exact (keep a o ha hn).1 nv
    · by_cases hk : a ∈ FAd pf F
      · obtain ⟨φ, hφ⟩ := S.ext hk
        rw [hφ] at ha; cases ha
      · rw [out hk] at ha; exact dom a ha
  · have hm := List.mem_of_getElem? hx
    obtain ⟨φ, hφ⟩ := S.ext (ad_r hm)
    exact .inr ⟨F.map fun x => .ref x.r, k, φ, rfl, S.at' _ sh_l, by rw [List.getElem?_map, hx]; rfl, hφ, Q.g _ (ad_r hm)⟩
end
end CK
namespace CK
open PySem PySem.Spec PyProof.Rows L2
section
variable {Ev : Addr → Prop} {pf : Addr} {F : List FRow} {i k : Nat} {x z : FRow}
theorem nd_parts (nd : (FAd pf F).Nodup) : (∀ x ∈ F, pf ≠ x.r ∧ pf ≠ x.o ∧ pf ≠ x.d) ∧ (∀ x ∈ F, x.r ≠ x.o ∧ x.r ≠ x.d ∧ x.o ≠ x.d) ∧ F.Pairwise fun a b => ∀ x ∈ [a.r, a.o, a.d], ∀ y ∈ [b.r, b.o, b.d], x ≠ y := by
  obtain ⟨n1, n2⟩ := List.nodup_cons.mp nd
  obtain ⟨n3, n4⟩ := List.pairwise_flatMap.mp n2
  refine ⟨fun x hx => ⟨fun e => n1 ?_, fun e => n1 ?_, fun e => n1 ?_⟩, fun x hx => ?_, n4⟩
  · rw [e]; exact List.mem_flatMap.mpr ⟨x, hx, by simp⟩
  · rw [e]; exact List.mem_flatMap.mpr ⟨x, hx, by simp⟩
  · rw [e]; exact List.mem_flatMap.mpr ⟨x, hx, by simp⟩
  · have := n3 x hx
    simp only [List.pairwise_cons, List.mem_cons, List.not_mem_nil, or_false, forall_eq_or_imp, forall_eq] at this
    exact ⟨this.1.1, this.1.2, this.2.1⟩
theorem nd_pair (nd : (FAd pf F).Nodup) (hi : F[i]? = some z) (hk : F[k]? = some x) (ne : i ≠ k) : ∀ a ∈ [z.r, z.o, z.d], ∀ b ∈ [x.r, x.o, x.d], a ≠ b := by
  obtain ⟨_, _, n4⟩ := nd_parts nd
  obtain ⟨li, ei⟩ := List.getElem?_eq_some_iff.mp hi
  obtain ⟨lk, ek⟩ := List.getElem?_eq_some_iff.mp hk
  have pw := List.pairwise_iff_getElem.mp n4
  rcases Nat.lt_or_gt_of_ne ne with h | h
  · have := pw i k li lk h
    rw [ei, ek] at this
    exact this
  · have := pw k i lk li h
    rw [ei, ek] at this
    exact fun a ha b hb e => this b hb a ha e.symm
theorem flat_set : ∀ {F : List FRow} {k : Nat} {x x' : FRow}, F[k]? = some x → x'.r = x.r → x'.o = x.o → x'.d = x.d → ((F.set k x').flatMap fun x => [x.r, x.o, x.d]) = F.flatMap fun x => [x.r, x.o, x.d]
  | [], k, x, x', h, _, _, _ => by simp at h
  | y :: F, 0, x, x', h, h1, h2, h3 => by
    simp at h
    subst h
    rw [List.set_cons_zero, List.flatMap_cons, List.flatMap_cons, h1, h2, h3]
  | y :: F, k + 1, x, x', h, h1, h2, h3 => by
    simp at h
    rw [List.set_cons_succ, List.flatMap_cons, List.flatMap_cons, flat_set h h1 h2 h3]
theorem ad_set {x' : FRow} (h : F[k]? = some x) (h1 : x'.r = x.r) (h2 : x'.o = x.o) (h3 : x'.d = x.d) : FAd pf (F.set k x') = FAd pf F := by
  unfold FAd
  rw [flat_set h h1 h2 h3]
theorem refs_set {x' : FRow} (h : F[k]? = some x) (h1 : x'.r = x.r) : ((F.set k x').map fun x => V.ref x.r) = F.map fun x => V.ref x.r := by
  apply List.ext_getElem?
  intro i
  rw [List.getElem?_map, List.getElem?_map, List.getElem?_set]
  by_cases hi : k = i
  · subst hi
    have := (List.getElem?_eq_some_iff.mp h).1
    rw [if_pos rfl, if_pos this, h]
    show some (V.ref x'.r) = some (V.ref x.r)
    rw [h1]
  · rw [if_neg hi]
theorem mem_set_at {x' : FRow} (h : z ∈ F.set k x') : z = x' ∨ ∃ i, i ≠ k ∧ F[i]? = some z := by
  obtain ⟨i, hi⟩ := List.mem_iff_getElem?.mp h
  rw [List.getElem?_set] at hi
  by_cases e : k = i
  · subst e
    rw [if_pos rfl] at hi
    split at hi
    · cases hi; exact .inl rfl
    · cases hi
  · rw [if_neg e] at hi
    exact .inr ⟨i, fun z => e z.symm, hi⟩
theorem FBase.setR {x' : FRow} (B : FBase Ev pf F) (h : F[k]? = some x) (h1 : x'.r = x.r) (h2 : x'.o = x.o) (h3 : x'.d = x.d) : FBase Ev pf (F.set k x') :=
  ⟨by rw [ad_set h h1 h2 h3]; exact B.nd, fun z hz => by
    rcases mem_set_at hz with rfl | ⟨i, _, hi⟩
    · rw [h2, h3]; exact B.dp x (List.mem_of_getElem? h)
    · exact B.dp z (List.mem_of_getElem? hi), by rw [List.length_set]; exact B.ln, fun a ha => by rw [ad_set h h1 h2 h3] at ha; exact B.w a ha⟩
/-- one row told anew -/
theorem FamO.setR {C : Addr} {H H' : Hp} {x' : FRow} (O : FamO Ev C pf H F) (h : F[k]? = some x) (h1 : x'.r = x.r) (h2 : x'.o = x.o) (h3 : x'.d = x.d) (hr : H' x.r = some (.lst [.ref x.o, x'.c])) (ho : H' x.o = some (.ins C x.d (liFs.zip x'.fs)))
    (kp : ∀ a ∈ FAd pf F, a ≠ x.r → a ≠ x.o → H' a = H a) (he : ∀ a φ, Ev a → H a = some (.ext φ) → H' a = some (.ext φ)) : FamO Ev C pf H' (F.set k x') := by
  have hx := List.mem_of_getElem? h
  obtain ⟨p1, p2, _⟩ := nd_parts O.nd
  obtain ⟨a1, a2, a3⟩ := p1 x hx
  obtain ⟨b1, b2, b3⟩ := p2 x hx
  refine ⟨O.toFBase.setR h h1 h2 h3, fun p hp => ?_, fun a ha => by obtain ⟨φ, hφ⟩ := O.e a ha; exact ⟨φ, he a φ ha hφ⟩⟩
  rcases op_mem hp with hq | ⟨z, hz, hq⟩
  · rw [hq]
    show H' pf = some (.lst _)
    rw [refs_set h h1, kp pf List.mem_cons_self a1 a2]
    exact O.at' _ op_l
  · rcases mem_set_at hz with rfl | ⟨i, ne, hi⟩
    · rcases hq with rfl | rfl | rfl
      · show H' z.r = some (.lst [.ref z.o, z.c])
        rw [h1, h2]; exact hr
      · show H' z.o = some (.ins C z.d _)
        rw [h2, h3]; exact ho
      · show H' z.d = some (.own z.o)
        rw [h2, h3, kp _ (ad_d hx) (Ne.symm b2) (Ne.symm b3)]
        exact O.at' _ (op_d hx)
    · have hm := List.mem_of_getElem? hi
      have q := nd_pair O.nd hi h ne
      rcases hq with rfl | rfl | rfl
      · show H' z.r = _
        rw [kp _ (ad_r hm) (q _ (by simp) _ (by simp)) (q _ (by simp) _ (by simp))]
        exact O.at' _ (op_r hm)
      · show H' z.o = _
        rw [kp _ (ad_o hm) (q _ (by simp) _ (by simp)) (q _ (by simp) _ (by simp))]
        exact O.at' _ (op_o hm)
      · show H' z.d = _
        rw [kp _ (ad_d hm) (q _ (by simp) _ (by simp)) (q _ (by simp) _ (by simp))]
        exact O.at' _ (op_d hm)
theorem FD.setR {K : PySem.W.Frag} {G : Hp} {L : LD} {x' : FRow} {y' : List PyData × PyData} (h : FD K G F L) (h1 : RpAll K G x'.fs y'.1) (h2 : Rp K G x'.c y'.2) : FD K G (F.set k x') (L.set k y') := by
  refine ⟨by rw [List.length_set, List.length_set]; exact h.1, fun i a b e1 e2 => ?_⟩
  rw [List.getElem?_set] at e1 e2
  by_cases e : k = i
  · subst e
    rw [if_pos rfl] at e1 e2
    split at e1
    · rw [if_pos (by rw [← h.1]; assumption)] at e2
      cases e1; cases e2
      exact ⟨h1, h2⟩
    · cases e1
  · rw [if_neg e] at e1 e2
    exact h.2 i a b e1 e2
end
section
variable {Ev : Addr → Prop} {C pf : Addr} {K : PySem.W.Frag} {G G' H H' G0 H0 : Hp} {σ σ' σ0 : SS} {δ δ' δ0 : List Sl} {F : List FRow} {L : LD} {f j k : Nat} {x : FRow} {y : List PyData × PyData}
theorem OpnF.call {n : Nat} {fn : Fn} {as : List Ag} {ps : List (Option Sl)} {vs : List V} {ss ss' δ2 : List Sl} {ds' : List PyData} {r : Sl} {Q : VK} {E : XK}
    (O : OpnF Ev C pf K σ0 δ0 G0 H0 F L G H σ δ) (hx : F[k]? = some x) (hy : L[k]? = some y) (nd : (agI as).Nodup) (hn : as.length = n)
    (aw : AW K G (σ ++ [some (.ref x.o)]) vs as ps) (e2 : agS as ps (δ ++ [.bx (.o liFs) y.1]) = some ss) (e3 : fn ss = some (r, ss')) (hB : agB as ss' (δ ++ [.bx (.o liFs) y.1]) = δ2 ++ [.bx (.o liFs) ds']) (nm2 : noMoK δ2)
    (q : ∀ (v : V) (G2 H2 : Hp) (fs' : List V), OpnF Ev C pf K σ0 δ0 G0 H0 (F.set k { x with fs := fs' }) (L.set k (ds', y.2)) G2 H2 σ δ2 → @RV (plainAt C) K G2 H2 H σ δ2 v r → Q v H2) : @spD (plainAt C) K n fn vs H Q E := by
  letI mm : Memo := plainAt C
  have hm := List.mem_of_getElem? hx
  obtain ⟨x0, hx0, _, r1, r2⟩ := O.fd.row hy
  rw [hx] at hx0
  cases hx0
  have ho : H x.o = some (.ins C x.d (liFs.zip x.fs)) := O.O.at' _ (op_o hm)
  have hbx : Bx H x.o (.o liFs) x.fs := ⟨⟨x.d, O.O.dp x hm⟩, ho⟩
  have no := O.n _ (ad_o hm)
  have P1 := O.R.push (v := .ref x.o) (s := .bx (.o liFs) y.1) ⟨x.o, x.fs, rfl, hbx, O.g _ (ad_o hm), r1⟩ fun p t ds _ e => by cases e; exact no
  have hl : σ.length = δ.length := O.R.len
  refine call_core nd hn P1 aw e2 e3 (.inl fun _ z => z) fun v G2 H2 R2 st2 rv => ?_
  rw [hB] at R2 st2 rv
  have hl2 : δ2.length = δ.length := by
    have := R2.len
    rw [List.length_append, List.length_append] at this
    have h1 : ([some (V.ref x.o)] : SS).length = 1 := rfl
    have h2 : ([Sl.bx (.o liFs) ds'] : List Sl).length = 1 := rfl
    omega
  have R3 := Rel.pop (by rw [List.length_append, List.length_append]; show δ2.length + 1 = σ.length + 1; omega) R2
  rw [hl, ← hl2, List.take_left' rfl] at R3
  -- the machine itself
  obtain ⟨p, fs', e1, b2, g2, ra2⟩ := R2.slot δ.length (.bx (.o liFs) ds') (by rw [← hl2, List.getElem?_append_right (Nat.le_refl _), Nat.sub_self]; rfl)
  rw [← hl, List.getElem?_append_right (Nat.le_refl _), Nat.sub_self] at e1
  have e1 : (some (V.ref x.o)) = some (.ref p) := e1
  cases e1
  obtain ⟨dx, b2⟩ := b2
  have hdx : dx.1 = x.d := by
    have h1 := dx.2
    have h2 := O.O.dp x hm
    exact Nat.succ.inj (h1.trans h2.symm)
  rw [hdx] at b2
  have ownP : ∀ {a : Addr}, a ≠ x.o → ¬ Own σ δ a → ¬ Own (σ ++ [some (V.ref x.o)]) (δ ++ [.bx (.o liFs) y.1]) a := fun {a} n1 n2 z => by
    rcases own_push hl z with z | ⟨z, _⟩
    · exact n2 z
    · cases z; exact n1 rfl
  have own2 : ∀ {a : Addr}, Own σ δ2 a → Own (σ ++ [some (V.ref x.o)]) (δ2 ++ [.bx (.o liFs) ds']) a := fun {a} z => own_push0 (by rw [hl, hl2]) z
  have no2 : ¬ Own σ δ2 x.o := fun z => by
    obtain ⟨i, t, ds, h1, h2⟩ := z
    have hi : i < δ2.length := (List.getElem?_eq_some_iff.mp h2).1
    have := R2.inj i δ2.length x.o t (.o liFs) ds ds' (by rw [List.getElem?_append_left (by omega)]; exact h1) (by rw [List.getElem?_append_left hi]; exact h2)
      (by rw [hl2, ← hl, List.getElem?_append_right (Nat.le_refl _), Nat.sub_self]; rfl) (by rw [List.getElem?_append_right (Nat.le_refl _), Nat.sub_self]; rfl)
    omega
  obtain ⟨keep, dom, same, grow⟩ := st2
  have kp : ∀ {a : Addr} {u : HO}, a ≠ x.o → ¬ Own σ δ a → H a = some u → H2 a = some u ∧ ¬ Own σ δ2 a := fun {a u} n1 n2 hu => by
    obtain ⟨k1, k2⟩ := keep a u hu (ownP n1 n2)
    exact ⟨k1 fun z => z.2, fun z => k2 (own2 z)⟩
  have adE : FAd pf (F.set k { x with fs := fs' }) = FAd pf F := ad_set hx rfl rfl rfl
  refine q v G2 H2 fs' ⟨R3, nm2, ?_, ?_, ?_, ?_, ?_, ?_⟩ ?_
  · obtain ⟨keep0, dom0, same0, grow0⟩ := O.st
    refine @Stp.mk (memoF Ev C pf K) _ _ _ _ _ _ _ _ (fun a u ha na => ?_) (fun a ha => dom0 a (dom a ha)) (same0.trans same) (fun a u ha => ?_)
    · obtain ⟨k1, k2⟩ := keep0 a u ha na
      by_cases e : a = x.o
      · subst e
        exact ⟨fun nv => absurd ⟨O.v _ (ad_o hm) na u ha, O.O.w _ (ad_o hm)⟩ nv, no2⟩
      · cases hH : H a with
        | none => rw [dom0 a hH] at ha; cases ha
        | some u2 =>
          obtain ⟨z1, z2⟩ := kp e k2 hH
          refine ⟨fun nv => ?_, z2⟩
          have := k1 nv
          rw [hH] at this
          cases this
          exact z1
    · rcases grow a u ha with z | z | z
      · exact grow0 a u z
      · exact .inr (.inl (dom0 a z))
      · rcases own_push hl z with z | ⟨z, _⟩
        · by_cases ho0 : Own σ0 δ0 a
          · exact .inr (.inr ho0)
          · cases h0 : H0 a with
            | none => exact .inr (.inl rfl)
            | some u0 => exact absurd z (keep0 a u0 h0 ho0).2
        · cases z
          rw [g2] at ha; cases ha
  · refine O.O.setR hx rfl rfl rfl ?_ b2 (fun a ha n1 n2 => ?_) fun a φ ha hφ => (kp (fun z => O.O.w _ (ad_o hm) (by rw [← z]; exact ha)) (notOwn O.R hφ) hφ).1
    · obtain ⟨_, p2, _⟩ := nd_parts O.O.nd
      exact (kp (p2 x hm).1 (O.n _ (ad_r hm)) (O.O.at' _ (op_r hm))).1
    · obtain ⟨u, hu, _⟩ := O.O.nov ha
      rw [hu]
      exact (kp n2 (O.n _ ha) hu).1
  · rw [adE]
    intro a ha
    by_cases e : a = x.o
    · rw [e]; exact g2
    · obtain ⟨u, hu, _⟩ := O.O.nov ha
      cases hz : G2 a with
      | none => rfl
      | some w =>
        rcases grow a w hz with z | z | z
        · rw [O.g a ha] at z; cases z
        · rw [hu] at z; cases z
        · exact absurd z (ownP e (O.n _ ha))
  · rw [adE]
    intro a ha
    by_cases e : a = x.o
    · rw [e]; exact no2
    · obtain ⟨u, hu, _⟩ := O.O.nov ha
      exact (kp e (O.n _ ha) hu).2
  · exact (O.fd.same same).setR (x' := { x with fs := fs' }) (y' := (ds', y.2)) ra2 (r2.same same)
  · rw [adE]; exact O.v
  · cases r with
    | no => exact rv
    | im d => exact rv
    | fz d => exact rv
    | raw d => exact rv
    | mo d => exact rv
    | bx t' ds2 =>
      obtain ⟨p', ws', h1, h2, h3, h4, h5, h6⟩ := rv
      exact ⟨p', ws', h1, h2, h3, fun z => h4 (own2 z), h5, h6⟩
end
end CK
namespace CK
open PySem PySem.Spec PyProof.Rows L2
def tFin (P : Program) (w : World) (t : TE) : TE := fun σ H Q => t σ H fun v H2 => ∀ h, HOk P w H2 h → ∃ H3, Swap P w H2 H3 ∧ Q v H3
theorem pe_fin {X : Cx} {e : Expr} {t : TE} (h : PE X e t) : PE X e (tFin X.prog X.w t) := ⟨fun pins s σ H Q I q => thn (h.run pins s σ H _ I q) fun u s1 ⟨v, H2, I2, r, q2⟩ => by
  obtain ⟨H3, S, q3⟩ := q2 _ I2.hok
  exact ⟨v, H3, invSwap I2 S, r, q3⟩⟩
def tHok (P : Program) (w : World) (t : TE) : TE := fun σ H Q => ∀ h, HOk P w H h → t σ H Q
theorem pe_hok {X : Cx} {e : Expr} {t : TE} (h : PE X e t) : PE X e (tHok X.prog X.w t) := ⟨fun pins s σ H Q I q => h.run pins s σ H Q I (q _ I.hok)⟩
def tHokS (P : Program) (w : World) (t : TS) : TS := fun D σ H => ∀ h, HOk P w H h → t D σ H
theorem ps_hok {X : Cx} {e : Stmt} {t : TS} (h : PS X e t) : PS X e (tHokS X.prog X.w t) := ⟨fun pins s σ H D I q => h.run pins s σ H D I (q _ I.hok)⟩
theorem pss_hok {X : Cx} {e : List Stmt} {t : TS} (h : PSs X e t) : PSs X e (tHokS X.prog X.w t) := ⟨fun pins s σ H D I q => h.run pins s σ H D I (q _ I.hok)⟩
section
variable {Ev : Addr → Prop} {C pf : Addr} {K : PySem.W.Frag} {G G' H H' G0 H0 : Hp} {σ σ' σ0 : SS} {δ δ' δ0 : List Sl} {F : List FRow} {L : LD} {f j k : Nat} {x : FRow} {y : List PyData × PyData}
theorem put_back (S : FamS Ev C pf H F) : putL (putL H (fOp C pf F)) (fSh C pf F) = H := by
  funext a
  by_cases ha : a ∈ FAd pf F
  · rw [← keys_sh C] at ha
    obtain ⟨o, ho, e⟩ := atL_get S.at' ha
    rw [e]
    exact putL_in (by rw [keys_sh]; exact S.nd) ho
  · rw [putL_out (by rw [keys_sh]; exact ha), putL_out (by rw [keys_op]; exact ha)]
theorem swap_back {P : Program} {w : World} (S : FamS Ev C pf H F) : Swap P w (putL H (fOp C pf F)) H := by
  have := S.opn.swap (P := P) (w := w)
  rw [put_back S] at this
  exact this
theorem relMoS {m : Memo} {G H : Hp} {a : Addr} {z : Inf} {i : Nat} (R : @Rel m K G H σ δ) (hi : σ[i]? = some (some (.ref a))) (hm : m.M G H a z) : @Rel m K G H σ (δ.set i (.mo z)) := by
  have hl : i < δ.length := by
    have := (List.getElem?_eq_some_iff.mp hi).1
    obtain ⟨_, h, _⟩ := R
    rw [← h]; exact this
  have := relMo R hl hm
  rw [set_at hi] at this
  exact this
theorem own_mo' {z : Inf} {i : Nat} {a : Addr} (h : Own σ (δ.set i (.mo z)) a) : Own σ δ a := by
  obtain ⟨k, t, ds, h1, h2⟩ := h
  rcases set_no h2 with ⟨_, e⟩ | ⟨_, h2⟩
  · cases e
  · exact ⟨k, t, ds, h1, h2⟩
/-- closed, with the family in slot f and row k in slot j -/
def back2 (f j : Nat) (L : LD) (k : Nat) (δ : List Sl) : List Sl := ((clr f j δ).set f (.mo (famI L))).set j (.mo (rowI k))
theorem OpnF.closeR (Q : OpnF Ev C pf K σ0 δ0 G0 H0 F L G H σ δ) (hf : σ[f]? = some (some (.ref pf))) (hk : F[k]? = some x) (hj : σ[j]? = some (some (.ref x.r))) :
    @Rel (memoF Ev C pf K) K G (putL H (fSh C pf F)) σ ((δ.set f (.mo (famI L))).set j (.mo (rowI k))) ∧ @Stp (memoF Ev C pf K) σ0 δ0 G0 H0 σ ((δ.set f (.mo (famI L))).set j (.mo (rowI k))) G (putL H (fSh C pf F)) := by
  obtain ⟨_, R, st, M, Mr⟩ := Q.close
  exact ⟨relMoS (relMoS R hf M) hj (Mr k x hk), @Stp.own_end (memoF Ev C pf K) _ _ _ _ _ _ _ _ _ _ st fun a z => own_mo' (own_mo' z)⟩
theorem OpnF.closeF (Q : OpnF Ev C pf K σ0 δ0 G0 H0 F L G H σ δ) (hf : σ[f]? = some (some (.ref pf))) :
    @Rel (memoF Ev C pf K) K G (putL H (fSh C pf F)) σ (δ.set f (.mo (famI L))) ∧ @Stp (memoF Ev C pf K) σ0 δ0 G0 H0 σ (δ.set f (.mo (famI L))) G (putL H (fSh C pf F)) := by
  obtain ⟨_, R, st, M, Mr⟩ := Q.close
  exact ⟨relMoS R hf M, @Stp.own_end (memoF Ev C pf K) _ _ _ _ _ _ _ _ _ _ st fun a z => own_mo' z⟩
/-- a row's calls told anew -/
theorem OpnF.setC (Q : OpnF Ev C pf K σ0 δ0 G0 H0 F L G H σ δ) (hx : F[k]? = some x) (hy : L[k]? = some y) {v : V} {d : PyData} (rp : Rp K G v d) : OpnF Ev C pf K σ0 δ0 G0 H0 (F.set k { x with c := v }) (L.set k (y.1, d)) G (upd H x.r (.lst [.ref x.o, v])) σ δ := by
  letI mm : Memo := plainAt C
  have hm := List.mem_of_getElem? hx
  have hr : H x.r = some (.lst [.ref x.o, x.c]) := Q.O.at' _ (op_r hm)
  have adE : FAd pf (F.set k { x with c := v }) = FAd pf F := ad_set hx rfl rfl rfl
  obtain ⟨_, p2, _⟩ := nd_parts Q.O.nd
  obtain ⟨b1, b2, b3⟩ := p2 x hm
  obtain ⟨x0, hx0, _, q1, q2⟩ := Q.fd.row hy
  rw [hx] at hx0; cases hx0
  refine ⟨Q.R.poke hr (Q.g _ (ad_r hm)) (Q.n _ (ad_r hm)), Q.nm, ?_, ?_, by rw [adE]; exact Q.g, by rw [adE]; exact Q.n, Q.fd.setR (x' := { x with c := v }) (y' := (y.1, d)) q1 rp, by rw [adE]; exact Q.v⟩
  · obtain ⟨keep, dom, same, grow⟩ := Q.st
    refine @Stp.mk (memoF Ev C pf K) _ _ _ _ _ _ _ _ (fun a o ha hn => ⟨fun nv => ?_, (keep a o ha hn).2⟩) (fun a ha => ?_) same grow
    · by_cases e : a = x.r
      · subst e
        exact absurd ⟨Q.v _ (ad_r hm) hn o ha, Q.O.w _ (ad_r hm)⟩ nv
      · rw [upd_ne e]; exact (keep a o ha hn).1 nv
    · by_cases e : a = x.r
      · rw [e, upd_same] at ha; cases ha
      · rw [upd_ne e] at ha; exact dom a ha
  · refine Q.O.setR hx rfl rfl rfl upd_same ?_ (fun a ha n1 n2 => upd_ne n1) fun a φ ha hφ => by rw [upd_ne (fun z => Q.O.w _ (ad_r hm) (by rw [← z]; exact ha))]; exact hφ
    rw [upd_ne (Ne.symm b1)]
    exact Q.O.at' _ (op_o hm)
end
def dRow1 (f j : Nat) : Ex := fun δ => (famL δ[f]?).bind fun L => (rowK δ[j]?).bind fun k => L[k]?.bind fun y => some (.im y.2, δ)
def dLenFam (f : Nat) : Ex := fun δ => (famL δ[f]?).bind fun L => some (.im (.int L.length), δ)
def sRowAt (f j : Nat) (F : Ex) : Sm := fun δ => (famL δ[f]?).bind fun _ => (F δ).bind fun x => (intOf x.1).bind fun i => (famL x.2[f]?).bind fun L => if 0 ≤ i ∧ i.toNat < L.length ∧ f ≠ j ∧ j < x.2.length ∧ noMoB (clr f j x.2) = true then some (.nx, x.2.set j (.mo (rowI i.toNat))) else none
def sRowPut (f j : Nat) (F : Ex) : Sm := fun δ => (F δ).bind fun x => x.1.sh.bind fun d => (famL x.2[f]?).bind fun L => (rowK x.2[j]?).bind fun k => L[k]?.bind fun y => if noMoB (clr f j x.2) = true ∧ f ≠ j then some (.nx, back2 f j (L.set k (y.1, d)) k x.2) else none
theorem intOf_eq {r : Sl} {i : Int} (h : intOf r = some i) : r = .im (.int i) := by
  unfold intOf at h
  split at h
  · cases h; rfl
  · cases h
section
variable {X : Cx} {Ev : Addr → Prop} {C pf : Addr} {e b : Expr} {F0 : Ex} {f j : Nat} {x z : Str} {px pos : Pos}
theorem de_row1 (f j : Nat) (hb : PE X b (tC (.int 1))) (hN : X.N[j]? = some x := by rfl) (hv : Vis X.env.scope x := by first | exact Or.inl rfl | exact Or.inr (Or.inl rfl) | exact Or.inr (Or.inr rfl)) (hd : (x == ("__debug__" : Str)) = false := by decide)
    (hcd : (x == ("__classdict__" : Str)) = false := by decide) (hs : PlainIx b := by exact fun _ _ => rfl) : @DE (memoF Ev C pf X.K) X (.Subscript (.Name x px) b pos) (dRow1 f j) :=
  PE.by (pe_hok (pe_swap (pe_elt j (k := 1) hb hN hv hd hcd hs))) fun σ H Q h hh ok => by
    obtain ⟨G, δ, r, δ', R, e, q⟩ := h
    obtain ⟨L, e1, e⟩ := bind_some_of e
    obtain ⟨k, e2, e⟩ := bind_some_of e
    obtain ⟨y, e3, e⟩ := bind_some_of e
    cases e
    obtain ⟨hp, F, S, g, fd⟩ := fam_at (R := R) e1
    obtain ⟨w, hw, hm, r1, r2⟩ := fd.row e3
    have hj := row_at ok (R := R) S e2 hw
    exact ⟨putL H (fOp C pf F), S.swap, w.r, [.ref w.o, w.c], w.c, hj, S.opn.at' _ (op_r hm), rfl, H, swap_back S, q w.c G H R (@Stp.refl (memoF Ev C pf X.K) _ _ _ _) r2⟩
theorem de_lenFam (f : Nat) {p : Pos} (hg : Gl X "len") (hm : X.mg "len" = none) (hN : X.N[f]? = some x := by rfl) (hv : Vis X.env.scope x := by first | exact Or.inl rfl | exact Or.inr (Or.inl rfl) | exact Or.inr (Or.inr rfl)) (hd : (x == ("__debug__" : Str)) = false := by decide)
    (hcd : (x == ("__classdict__" : Str)) = false := by decide) (hs : starEach [(.Name x px : Expr)] X.env = (false, eval (.Name x px) X.env) :: starEach [] X.env := by rfl) (hpl : (backTo pos (starEach [] X.env)).any (·.1) = false := by rfl) :
    @DE (memoF Ev C pf X.K) X (.Call (.Name "len" p) [.Name x px] [] pos) (dLenFam f) :=
  PE.by (pe_swap (pe_callB call_len_seq hg hm boot_len (pa_cons (pe_var hN hv hd hcd) pa_nil hs) (by decide) (by decide) hs hpl)) fun σ H Q h => by
    obtain ⟨G, δ, r, δ', R, e, q⟩ := h
    obtain ⟨L, e1, e⟩ := bind_some_of e
    cases e
    obtain ⟨hp, F, S, g, fd⟩ := fam_at (R := R) e1
    refine ⟨putL H (fOp C pf F), S.swap, .ref pf, hp, pf, F.map fun x => .ref x.r, rfl, .inl (SqL.of (S.opn.at' _ op_l)), H, swap_back S, ?_⟩
    rw [List.length_map, fd.1]
    exact q _ G H R (@Stp.refl (memoF Ev C pf X.K) _ _ _ _) (.int _)
theorem ds_rowAt {P : List Nat} {p1 p2 p3 : Pos} (he : @DE (memoF Ev C pf X.K) X e F0) (hN : X.N.Nodup) (hi : X.N[j]? = some x) (hx : Loc X.env.scope x) (hif : X.N[f]? = some z) (hp : P.contains j = false := by rfl)
    (hf : X.fn x = true ∨ X.env.scope.names.lookup x = some .local := by first | exact .inl rfl | exact .inr rfl | assumption) (hv : Vis X.env.scope z := by first | exact Or.inl rfl | exact Or.inr (Or.inl rfl) | exact Or.inr (Or.inr rfl))
    (hd : (z == ("__debug__" : Str)) = false := by decide) (hcd : (z == ("__classdict__" : Str)) = false := by decide) (hs : PlainIx e := by exact fun _ _ => rfl) (hsw : swapsWith (.Subscript (.Name z p2) e p3) (some (.Name x p1)) pos.line X.env = pure false := by rfl) :
    @DS (memoF Ev C pf X.K) X P (.Assign [.Name x p1] (.Subscript (.Name z p2) e p3) pos) (sRowAt f j F0) :=
  PS.by (ps_swap (ps_set hN hi hx (pe_ix ix_list (pe_var hif hv hd hcd) (pe_fin he) hs) hsw hf)) fun D σ H h => by
    letI mm : Memo := memoF Ev C pf X.K
    obtain ⟨G, δ, fl, δ', R, e, q⟩ := h
    obtain ⟨L0, e0, e⟩ := bind_some_of e
    obtain ⟨⟨r, δ1⟩, e1, e⟩ := bind_some_of e
    obtain ⟨i, e2, e⟩ := bind_some_of e
    obtain ⟨L, e3, e⟩ := bind_some_of e
    obtain ⟨⟨i0, i1, hfj, hjl, nmb⟩, e⟩ := iteS e
    cases e
    obtain ⟨hpf, _⟩ := fam_at (R := R) e0
    have e2 := intOf_eq e2
    refine ⟨H, Swap.refl, .ref pf, hpf, G, δ, r, δ1, R, e1, fun v G1 H1 R1 st1 rv hh ok => ?_⟩
    have e2 : r = .im (.int i) := e2
    subst e2
    cases rv
    obtain ⟨_, F, S, g, fd⟩ := fam_at (R := R1) e3
    have hkl : i.toNat < F.length := by rw [fd.1]; exact i1
    have hk : F[i.toNat]? = some F[i.toNat] := List.getElem?_eq_getElem hkl
    generalize F[i.toNat] = w at hk
    have hm := List.mem_of_getElem? hk
    refine ⟨putL H1 (fOp C pf F), S.swap, pf, F.map fun x => .ref x.r, i, .ref w.r, rfl, rfl, SqL.of (S.opn.at' _ op_l), ?_, H1, swap_back S, ?_⟩
    · have hl : i < ((F.map fun x => V.ref x.r).length : Int) := by rw [List.length_map]; omega
      unfold atI ixN
      rw [if_pos i0, if_pos hl]
      show (F.map fun x => V.ref x.r)[i.toNat]? = _
      rw [List.getElem?_map, hk]
      rfl
    · have hsl := R1.len
      obtain ⟨φ, hφ⟩ := S.ext (ad_r hm)
      have M : MF Ev C pf X.K G1 H1 w.r (rowI i.toNat) := .inr ⟨F.map fun x => .ref x.r, i.toNat, φ, rfl, S.at' _ sh_l, by rw [List.getElem?_map, hk]; rfl, hφ, g _ (ad_r hm)⟩
      exact q _ G1 H1 (relMo R1 hjl M) (Stp.setR R1 st1 fun _ _ _ z => nomatch z) (Pin.set hp)
theorem ds_rowPut {P : List Nat} {p2 p3 : Pos} (he : @DE (memoF Ev C pf X.K) X e F0) (hb : PE X b (tC (.int 1))) (hif : X.N[f]? = some z) (hij : X.N[j]? = some x) (hv : Vis X.env.scope x := by first | exact Or.inl rfl | exact Or.inr (Or.inl rfl) | exact Or.inr (Or.inr rfl))
    (hd : (x == ("__debug__" : Str)) = false := by decide) (hcd : (x == ("__classdict__" : Str)) = false := by decide)
    (ha : ∀ v, assign (.Subscript (.Name x p2) b p3) X.env v = (do
      let ov ← holding [v] (eval (.Name x p2) X.env)
      let iv ← holding [v, ov] (eval b X.env)
      standAt p3
      holding [v, ov, iv] (setItem ov iv v)
      release [v, ov, iv] []) := by exact fun _ => rfl)
    (hs : swapsWithSole [.Subscript (.Name x p2) b p3] e pos.line X.env = pure false := by rfl) (hw : swappedStores [.Subscript (.Name x p2) b p3] e X.env = pure none := by rfl) (h1 : (assignEach [.Subscript (.Name x p2) b p3] X.env).map (·.2) = [assign (.Subscript (.Name x p2) b p3) X.env] := by rfl) :
    @DS (memoF Ev C pf X.K) X P (.Assign [.Subscript (.Name x p2) b p3] e pos) (sRowPut f j F0) :=
  PS.by (ps_swap (ps_asg (pe_fin he) (pg_sub (pe_var hij hv hd hcd) hb set_list ha) hs hw h1)) fun D σ H h => by
    letI mm : Memo := memoF Ev C pf X.K
    obtain ⟨G, δ, fl, δ', R, e, q⟩ := h
    obtain ⟨⟨r, δ1⟩, e1, e⟩ := bind_some_of e
    obtain ⟨d, e2, e⟩ := bind_some_of e
    obtain ⟨L, e3, e⟩ := bind_some_of e
    obtain ⟨k, e4, e⟩ := bind_some_of e
    obtain ⟨y, e5, e⟩ := bind_some_of e
    obtain ⟨⟨nmb, hfj⟩, e⟩ := iteS e
    cases e
    refine ⟨H, Swap.refl, G, δ, r, δ1, R, e1, fun v G1 H1 R1 st1 rv hh ok => ?_⟩
    obtain ⟨G2, R2, st2, sg, rp⟩ := RV.shared R1 st1 rv e2
    obtain ⟨hpf, F, S, g, fd⟩ := fam_at (R := R2) e3
    obtain ⟨w, hw, hm, r1, r2⟩ := fd.row e5
    have hj := row_at ok (R := R2) S e4 hw
    obtain ⟨SW, O⟩ := fam_open (f := f) (j := j) R2 S g fd (noMoB_of nmb)
    have O2 := O.setC hw e5 rp
    refine ⟨putL H1 (fOp C pf F), SW _ _, .ref w.r, hj, w.r, [.ref w.o, w.c], 1, 1, rfl, rfl, O.O.at' _ (op_r hm), rfl, _, O2.O.swap, ?_⟩
    have hk2 : (F.set k { w with c := v })[k]? = some { w with c := v } := List.getElem?_set_self (List.getElem?_eq_some_iff.mp hw).1
    obtain ⟨R3, st3⟩ := O2.closeR hpf hk2 hj
    exact q _ G2 _ R3 (st2.trans st3) Pin.refl
end
end CK
namespace CK
open PySem PySem.Spec PyProof.Rows L2
/-- closed, with the family in slot f, row k in slot j -/
def backS (f j : Nat) (L : LD) (k : Nat) (δ : List Sl) : List Sl := (δ.set f (.mo (famI L))).set j (.mo (rowI k))
/-- what comes back of one machine -/
def oneO : Sl × List Sl → Option (PyData × List PyData)
  | (.im d, [.bx (.o fs) ds]) => if fs = liFs then some (d, ds) else none
  | _ => none
theorem oneO_eq {z : Sl × List Sl} {d : PyData} {ds : List PyData} (h : oneO z = some (d, ds)) : z = (.im d, [.bx (.o liFs) ds]) := by
  unfold oneO at h
  split at h
  · obtain ⟨e, h⟩ := iteS h
    cases h
    rw [e]
  · cases h
def dRowM (f j : Nat) (fn : Fn) : Ex := fun δ => (famL δ[f]?).bind fun L => (rowK δ[j]?).bind fun k => L[k]?.bind fun y => if noMoB (clr f j δ) = true then (fn [.bx (.o liFs) y.1]).bind fun z => (oneO z).bind fun w => some (.im w.1, backS f j (L.set k (w.2, y.2)) k (clr f j δ)) else none
/-- what comes back of a call with a jar, a machine, a kind, calls -/
def fourO : Sl × List Sl → Option (Sl × List PyData × List PyData)
  | (r, [.bx .l js, .bx (.o fs) ds, _, _]) => if fs = liFs then some (r, js, ds) else none
  | _ => none
theorem fourO_eq {z : Sl × List Sl} {r : Sl} {js ds : List PyData} (h : fourO z = some (r, js, ds)) : ∃ s t, z = (r, [.bx .l js, .bx (.o liFs) ds, s, t]) := by
  unfold fourO at h
  split at h
  · obtain ⟨e, h⟩ := iteS h
    cases h
    rw [e]
    exact ⟨_, _, rfl⟩
  · cases h
def plR : Sl → Bool
  | .im _ => true
  | .bx .l _ => true
  | _ => false
def dRowS (f j a b : Nat) (fn : Fn) : Ex := fun δ => (famL δ[f]?).bind fun L => (rowK δ[j]?).bind fun k => L[k]?.bind fun y => (owQs δ[a]?).bind fun js => (imQ δ[b]?).bind fun kd =>
  if noMoB (clr f j δ) = true ∧ a ≠ f ∧ a ≠ j ∧ b ≠ f ∧ b ≠ j then (fn [.bx .l js, .bx (.o liFs) y.1, .im kd, .im y.2]).bind fun z => (fourO z).bind fun w => if plR w.1 = true then some (w.1, backS f j (L.set k (w.2.2, y.2)) k ((clr f j δ).set a (.bx .l w.2.1))) else none else none
where
  owQs : Option Sl → Option (List PyData)
    | some (.bx .l js) => some js
    | _ => none
  imQ : Option Sl → Option PyData
    | some (.im d) => some d
    | _ => none
section
variable {Ev : Addr → Prop} {C pf : Addr} {K : PySem.W.Frag} {G G' H H' G0 H0 : Hp} {σ σ' σ0 : SS} {δ δ' δ0 : List Sl} {F : List FRow} {L : LD} {f j k : Nat} {x : FRow} {y : List PyData × PyData}
theorem last_at {α : Type} (l : List α) (a : α) : (l ++ [a])[l.length]? = some a := by rw [List.getElem?_append_right (Nat.le_refl _), Nat.sub_self]; rfl
theorem last_set {α : Type} (l : List α) (a b : α) : (l ++ [a]).set l.length b = l ++ [b] := by rw [List.set_append_right _ _ (Nat.le_refl _), Nat.sub_self]; rfl
/-- one machine handed to a def, and back: closed again -/
theorem rowM_go {P : Program} {w : World} {fn : Fn} {ds' : List PyData} {d : PyData} {Q : VK} {E : XK} (R : @Rel (memoF Ev C pf K) K G H σ δ) (hpf : σ[f]? = some (some (.ref pf))) (S : FamS Ev C pf H F) (g : ∀ a ∈ FAd pf F, G a = none) (fd : FD K G F L) (nm : noMoK (clr f j δ))
    (hx : F[k]? = some x) (hy : L[k]? = some y) (hj : σ[j]? = some (some (.ref x.r))) (e : fn [.bx (.o liFs) y.1] = some (.im d, [.bx (.o liFs) ds']))
    (q : ∀ (v : V) (G2 H2 : Hp), @Rel (memoF Ev C pf K) K G2 H2 σ (backS f j (L.set k (ds', y.2)) k (clr f j δ)) → @Stp (memoF Ev C pf K) σ δ G H σ (backS f j (L.set k (ds', y.2)) k (clr f j δ)) G2 H2 → Rp K G2 v d → Q v H2) :
    @spD (plainAt C) K 1 fn [.ref x.o] (putL H (fOp C pf F)) (fun v H2 => ∃ H3, Swap P w H2 H3 ∧ Q v H3) E := by
  obtain ⟨SW, O⟩ := fam_open (f := f) (j := j) R S g fd nm
  have hl : (clr f j δ).length = σ.length := by
    have := O.R
    obtain ⟨_, h, _⟩ := this
    exact h.symm
  refine O.call (as := [.io (clr f j δ).length]) (ps := [none]) (ss := [.bx (.o liFs) y.1]) (ss' := [.bx (.o liFs) ds']) (δ2 := clr f j δ) (ds' := ds') hx hy (by simp [agI]) rfl ⟨?_, trivial⟩ ?_ e ?_ nm fun v G2 H2 fs' O2 rv => ?_
  · rw [hl]; exact last_at σ _
  · show (match (clr f j δ ++ [Sl.bx (.o liFs) y.1])[(clr f j δ).length]? with | some (.bx t ds) => some (Sl.bx t ds) | some (.mo x) => some (Sl.mo x) | _ => none).bind _ = _
    rw [last_at]
    rfl
  · show (clr f j δ ++ [Sl.bx (.o liFs) y.1]).set (clr f j δ).length (.bx (.o liFs) ds') = _
    exact last_set _ _ _
  · have hk2 : (F.set k { x with fs := fs' })[k]? = some { x with fs := fs' } := List.getElem?_set_self (List.getElem?_eq_some_iff.mp hx).1
    obtain ⟨R3, st3⟩ := O2.closeR hpf hk2 hj
    exact ⟨_, O2.O.swap, q v G2 _ R3 st3 rv⟩
end
section
variable {X : Cx} {Ev : Addr → Prop} {C pf : Addr} {e b : Expr} {F0 : Ex} {f j k : Nat} {x z m : Str} {px pos apos : Pos} {g : Addr} {fd : FuncData} {ps : List Str} {fn : Fn}
/-- row[0].m() -/
theorem de_rowM {pl : Sem Bool} {spz : Pos} (f j : Nat) (hgd : X.A.guards = some []) (c : Cls X.K C) (hm : Meth X.K C m g) (FG : FnG X.prog X.w X.K X.mg X.base CX0 k g fd ps (@spD (plainAt C) X.K 1 fn)) (hr : Room k X.A) (hbd : Binds X.K fd ps []) (hb : PE X b (tC (.int 0)))
    (hc : liFs.contains m = false := by decide) (hN : X.N[j]? = some x := by rfl) (hv : Vis X.env.scope x := by first | exact Or.inl rfl | exact Or.inr (Or.inl rfl) | exact Or.inr (Or.inr rfl)) (hd : (x == ("__debug__" : Str)) = false := by decide)
    (hcd : (x == ("__classdict__" : Str)) = false := by decide) (hs : PlainIx b := by exact fun _ _ => rfl)
    (ht : eval (.Call (.Attribute (.Subscript (.Name x px) b spz) m apos) [] [] pos) X.env = (do
      let ov ← eval (.Subscript (.Name x px) b spz) X.env
      standAt apos.atName
      let (f, first) ← holding [ov] (getMethod ov m pl)
      callWith pos f first (backTo pos (starEach [] X.env)) (backToKw pos (keywordEach [] X.env))) := by rfl) :
    @DE (memoF Ev C pf X.K) X (.Call (.Attribute (.Subscript (.Name x px) b spz) m apos) [] [] pos) (dRowM f j fn) :=
  PE.by (pe_hok (pe_swap (pe_methG0 (pl := pl) hgd (pe_elt j (k := 0) hb hN hv hd hcd hs) c hm FG hr hbd pass0 ht))) fun σ H Q h hh ok => by
    obtain ⟨G, δ, r, δ', R, e, q⟩ := h
    obtain ⟨L, e1, e⟩ := bind_some_of e
    obtain ⟨k, e2, e⟩ := bind_some_of e
    obtain ⟨y, e3, e⟩ := bind_some_of e
    obtain ⟨nmb, e⟩ := iteS e
    obtain ⟨z, e4, e⟩ := bind_some_of e
    obtain ⟨⟨d, ds'⟩, e5, e⟩ := bind_some_of e
    cases e
    obtain ⟨hp, F, S, gn, fd⟩ := fam_at (R := R) e1
    obtain ⟨w, hw, hm, r1, r2⟩ := fd.row e3
    have hj := row_at ok (R := R) S e2 hw
    have e5 := oneO_eq e5
    subst e5
    exact ⟨putL H (fOp C pf F), S.swap, w.r, [.ref w.o, w.c], .ref w.o, hj, S.opn.at' _ (op_r hm), rfl, w.o, w.d, liFs.zip w.fs, rfl, S.opn.at' _ (op_o hm), zip_none hc,
      rowM_go (E := E0) R hp S gn fd (noMoB_of nmb) hw e3 hj e4 fun v G2 H2 R2 st2 rv => q v G2 H2 R2 st2 rv⟩
/-- f(row[0]) -/
theorem de_rowC {sp2 : Pos} {h : Str} {p : Pos} (f j : Nat) (hgd : X.A.guards = some []) (FG : FnG X.prog X.w X.K X.mg X.base CX0 k g fd ps (@spD (plainAt C) X.K 1 fn)) (hr : Room k X.A) (hg : Gl X h) (hmg : X.mg h = some (.ref g)) (hk : PySem.W.keepIn X.K (.ref g) = true)
    (hbd : Binds X.K fd ps []) (hb : PE X b (tC (.int 0))) (hN : X.N[j]? = some x := by rfl) (hv : Vis X.env.scope x := by first | exact Or.inl rfl | exact Or.inr (Or.inl rfl) | exact Or.inr (Or.inr rfl)) (hd : (x == ("__debug__" : Str)) = false := by decide)
    (hcd : (x == ("__classdict__" : Str)) = false := by decide) (hs : PlainIx b := by exact fun _ _ => rfl) (hdb : (h == ("__debug__" : Str)) = false := by decide)
    (he : starEach [(.Subscript (.Name x px) b sp2 : Expr)] X.env = (false, eval (.Subscript (.Name x px) b sp2) X.env) :: starEach [] X.env := by rfl) (hpl : (backTo pos (starEach [] X.env)).any (·.1) = false := by rfl) :
    @DE (memoF Ev C pf X.K) X (.Call (.Name h p) [.Subscript (.Name x px) b sp2] [] pos) (dRowM f j fn) :=
  PE.by (pe_hok (pe_swap (pe_callG hgd FG hr hg hmg hk hbd pass0 (pa_cons (pe_elt j (k := 0) hb hN hv hd hcd hs) pa_nil he) hdb he hpl))) fun σ H Q h hh ok => by
    obtain ⟨G, δ, r, δ', R, e, q⟩ := h
    obtain ⟨L, e1, e⟩ := bind_some_of e
    obtain ⟨k, e2, e⟩ := bind_some_of e
    obtain ⟨y, e3, e⟩ := bind_some_of e
    obtain ⟨nmb, e⟩ := iteS e
    obtain ⟨z, e4, e⟩ := bind_some_of e
    obtain ⟨⟨d, ds'⟩, e5, e⟩ := bind_some_of e
    cases e
    obtain ⟨hp, F, S, gn, fd⟩ := fam_at (R := R) e1
    obtain ⟨w, hw, hm, r1, r2⟩ := fd.row e3
    have hj := row_at ok (R := R) S e2 hw
    have e5 := oneO_eq e5
    subst e5
    exact ⟨putL H (fOp C pf F), S.swap, w.r, [.ref w.o, w.c], .ref w.o, hj, S.opn.at' _ (op_r hm), rfl,
      rowM_go (E := E0) R hp S gn fd (noMoB_of nmb) hw e3 hj e4 fun v G2 H2 R2 st2 rv => q v G2 H2 R2 st2 rv⟩
/-- f(a, row[0], b, row[1]), a a list of its own, b data -/
theorem de_rowS {sp0 sp2 sp3 sp4 px2 : Pos} {h xa xb : Str} {p : Pos} {e0 e1 : Expr} (f j a b : Nat) (hgd : X.A.guards = some []) (FG : FnG X.prog X.w X.K X.mg X.base CX0 k g fd ps (@spD (plainAt C) X.K 4 fn)) (hr : Room k X.A) (hg : Gl X h) (hmg : X.mg h = some (.ref g)) (hk : PySem.W.keepIn X.K (.ref g) = true)
    (hbd : Binds X.K fd ps []) (hb0 : PE X e0 (tC (.int 0))) (hb1 : PE X e1 (tC (.int 1))) (hN : X.N[j]? = some x := by rfl) (hNa : X.N[a]? = some xa := by rfl) (hNb : X.N[b]? = some xb := by rfl)
    (hv : Vis X.env.scope x := by first | exact Or.inl rfl | exact Or.inr (Or.inl rfl) | exact Or.inr (Or.inr rfl)) (hva : Vis X.env.scope xa := by first | exact Or.inl rfl | exact Or.inr (Or.inl rfl) | exact Or.inr (Or.inr rfl)) (hvb : Vis X.env.scope xb := by first | exact Or.inl rfl | exact Or.inr (Or.inl rfl) | exact Or.inr (Or.inr rfl))
    (hd : (x == ("__debug__" : Str)) = false := by decide) (hcd : (x == ("__classdict__" : Str)) = false := by decide) (hda : (xa == ("__debug__" : Str)) = false := by decide) (hcda : (xa == ("__classdict__" : Str)) = false := by decide) (hd2 : (xb == ("__debug__" : Str)) = false := by decide) (hcd2 : (xb == ("__classdict__" : Str)) = false := by decide)
    (hs0 : PlainIx e0 := by exact fun _ _ => rfl) (hs1 : PlainIx e1 := by exact fun _ _ => rfl) (hdb : (h == ("__debug__" : Str)) = false := by decide)
    (he : starEach [(.Name xa sp0 : Expr), .Subscript (.Name x px) e0 sp2, .Name xb sp3, .Subscript (.Name x px2) e1 sp4] X.env = (false, eval (.Name xa sp0) X.env) :: starEach [(.Subscript (.Name x px) e0 sp2 : Expr), .Name xb sp3, .Subscript (.Name x px2) e1 sp4] X.env := by rfl)
    (he2 : starEach [(.Subscript (.Name x px) e0 sp2 : Expr), .Name xb sp3, .Subscript (.Name x px2) e1 sp4] X.env = (false, eval (.Subscript (.Name x px) e0 sp2) X.env) :: starEach [(.Name xb sp3 : Expr), .Subscript (.Name x px2) e1 sp4] X.env := by rfl)
    (he3 : starEach [(.Name xb sp3 : Expr), .Subscript (.Name x px2) e1 sp4] X.env = (false, eval (.Name xb sp3) X.env) :: starEach [(.Subscript (.Name x px2) e1 sp4 : Expr)] X.env := by rfl)
    (he4 : starEach [(.Subscript (.Name x px2) e1 sp4 : Expr)] X.env = (false, eval (.Subscript (.Name x px2) e1 sp4) X.env) :: starEach [] X.env := by rfl)
    (hpl : (backTo pos (starEach [(.Subscript (.Name x px) e0 sp2 : Expr), .Name xb sp3, .Subscript (.Name x px2) e1 sp4] X.env)).any (·.1) = false := by rfl) :
    @DE (memoF Ev C pf X.K) X (.Call (.Name h p) [.Name xa sp0, .Subscript (.Name x px) e0 sp2, .Name xb sp3, .Subscript (.Name x px2) e1 sp4] [] pos) (dRowS f j a b fn) :=
  PE.by (pe_hok (pe_swap (pe_callG hgd FG hr hg hmg hk hbd pass0 (pa_cons (pe_var hNa hva hda hcda) (pa_cons (pe_elt j (k := 0) hb0 hN hv hd hcd hs0) (pa_cons (pe_var hNb hvb hd2 hcd2) (pa_cons (pe_elt j (k := 1) hb1 hN hv hd hcd hs1) pa_nil he4) he3) he2) he) hdb he hpl))) fun σ H Q h hh ok => by
    obtain ⟨G, δ, r, δ', R, e, q⟩ := h
    obtain ⟨L, e1, e⟩ := bind_some_of e
    obtain ⟨k, e2, e⟩ := bind_some_of e
    obtain ⟨y, e3, e⟩ := bind_some_of e
    obtain ⟨js, e4, e⟩ := bind_some_of e
    obtain ⟨kd, e5, e⟩ := bind_some_of e
    obtain ⟨⟨nmb, n1, n2, n3, n4⟩, e⟩ := iteS e
    obtain ⟨z, e6, e⟩ := bind_some_of e
    obtain ⟨⟨r1, js', ds'⟩, e7, e⟩ := bind_some_of e
    obtain ⟨hpl1, e⟩ := iteS e
    cases e
    obtain ⟨hp, F, S, gn, fd⟩ := fam_at (R := R) e1
    obtain ⟨w, hw, hm, ra, rc⟩ := fd.row e3
    have hj := row_at ok (R := R) S e2 hw
    obtain ⟨s, t, e7⟩ := fourO_eq e7
    subst e7
    have e4 : δ[a]? = some (.bx .l js) := by
      unfold dRowS.owQs at e4
      split at e4
      · cases e4; assumption
      · cases e4
    have e5 : δ[b]? = some (.im kd) := by
      unfold dRowS.imQ at e5
      split at e5
      · cases e5; assumption
      · cases e5
    obtain ⟨SW, O⟩ := fam_open (f := f) (j := j) R S gn fd (noMoB_of nmb)
    have ga : (clr f j δ)[a]? = some (.bx .l js) := by unfold clr; rw [List.getElem?_set_ne (Ne.symm n2), List.getElem?_set_ne (Ne.symm n1)]; exact e4
    have gb : (clr f j δ)[b]? = some (.im kd) := by unfold clr; rw [List.getElem?_set_ne (Ne.symm n4), List.getElem?_set_ne (Ne.symm n3)]; exact e5
    have OR := O.R
    obtain ⟨osub, olen, oslot, _, _⟩ := OR
    have hl : (clr f j δ).length = σ.length := olen.symm
    have hal : a < (clr f j δ).length := (List.getElem?_eq_some_iff.mp ga).1
    have hbl : b < (clr f j δ).length := (List.getElem?_eq_some_iff.mp gb).1
    obtain ⟨pa, wsa, sa, _⟩ := oslot a _ ga
    obtain ⟨vb, sb, rb⟩ := oslot b _ gb
    have sa := getD_some sa
    have sb := getD_some sb
    refine ⟨putL H (fOp C pf F), S.swap, .ref pa, sa, w.r, [.ref w.o, w.c], .ref w.o, hj, S.opn.at' _ (op_r hm), rfl, vb, sb, w.r, [.ref w.o, w.c], w.c, hj, S.opn.at' _ (op_r hm), rfl, ?_⟩
    refine O.call (E := E0) (as := [.io a, .io (clr f j δ).length, .ex (fun _ => none), .ex (fun _ => none)]) (ps := [none, none, some (.im kd), some (.im y.2)]) (ss := [.bx .l js, .bx (.o liFs) y.1, .im kd, .im y.2]) (ss' := [.bx .l js', .bx (.o liFs) ds', s, t]) (δ2 := (clr f j δ).set a (.bx .l js')) (ds' := ds') hw e3 ?_ rfl ⟨?_, ?_, rb, rc, trivial⟩ ?_ e6 ?_ ?_ fun v G2 H2 fs' O2 rv => ?_
    · simp only [agI, List.nodup_cons, List.mem_cons, List.not_mem_nil, or_false, not_false_eq_true, List.nodup_nil, and_true]
      omega
    · rw [List.getElem?_append_left (by omega)]; exact sa
    · rw [hl]; exact last_at σ _
    · show (match (clr f j δ ++ [Sl.bx (.o liFs) y.1])[a]? with | some (.bx t ds) => some (Sl.bx t ds) | some (.mo x) => some (Sl.mo x) | _ => none).bind (fun s => ((match (clr f j δ ++ [Sl.bx (.o liFs) y.1])[(clr f j δ).length]? with | some (.bx t ds) => some (Sl.bx t ds) | some (.mo x) => some (Sl.mo x) | _ => none).bind _).bind fun t => some (s :: t)) = _
      rw [List.getElem?_append_left hal, ga, last_at]
      rfl
    · show (((clr f j δ ++ [Sl.bx (.o liFs) y.1]).set a (.bx .l js')).set (clr f j δ).length (.bx (.o liFs) ds')) = _
      rw [List.set_append_left _ _ hal]
      have : ((clr f j δ).set a (.bx .l js')).length = (clr f j δ).length := List.length_set ..
      rw [← this]
      exact last_set _ _ _
    · exact noMo_set (noMoB_of nmb) fun _ z => (nomatch z)
    · have hk2 : (F.set k { w with fs := fs' })[k]? = some { w with fs := fs' } := List.getElem?_set_self (List.getElem?_eq_some_iff.mp hw).1
      obtain ⟨R3, st3⟩ := O2.closeR hp hk2 hj
      refine ⟨_, O2.O.swap, q v G2 _ R3 st3 ?_⟩
      cases r1 with
      | im d => exact rv
      | bx t2 ds2 =>
        cases t2 with
        | l =>
          obtain ⟨p', ws', h1, h2, h3, h4, h5, h6⟩ := rv
          have adE : FAd pf (F.set k { w with fs := fs' }) = FAd pf F := ad_set hw rfl rfl rfl
          have hout : p' ∉ FAd pf F := fun z => by
            obtain ⟨o, ho, _⟩ := S.opn.nov z
            rw [ho] at h5; cases h5
          refine ⟨p', ws', h1, ?_, h3, fun z => h4 (own_mo' (own_mo' z)), putL_dom S.at' (by rw [keys_op, keys_sh]) _ h5, h6⟩
          show putL H2 (fSh C pf (F.set k { w with fs := fs' })) p' = _
          rw [putL_out (by rw [keys_sh, adE]; exact hout)]
          exact h2
        | _ => cases hpl1
      | _ => cases hpl1
end
end CK
namespace CK
open PySem PySem.Spec PyProof.Rows L2
def cut (G : Hp) (d : Addr) : Hp := fun a => if a = d then none else G a
theorem cut_ne {G : Hp} {a d : Addr} (h : a ≠ d) : cut G d a = G a := if_neg h
theorem cut_same {G : Hp} {d : Addr} : cut G d d = none := if_pos rfl
theorem cut_get {G : Hp} {a d : Addr} {o : HO} (h : cut G d a = some o) : a ≠ d ∧ G a = some o := by
  by_cases e : a = d
  · rw [e, cut_same] at h; cases h
  · rw [cut_ne e] at h; exact ⟨e, h⟩
section
variable {K : PySem.W.Frag} {G H : Hp} {d : Addr} {p : Addr}
theorem cut_keep {a : Addr} {o : HO} (hd : ∀ u, G d = some u → u = .own p) (h : G a = some o) (ne : o ≠ .own p) : cut G d a = some o := by
  rw [cut_ne]
  · exact h
  · intro z
    rw [z] at h
    exact ne (hd _ h)
theorem sqT_cut {a : Addr} {xs : List V} (hd : ∀ u, G d = some u → u = .own p) (h : SqT K G a xs) : SqT K (cut G d) a xs := by
  rcases h with (h | ⟨o, h⟩) | h
  · exact .inl (.inl (cut_keep hd h fun z => nomatch z))
  · exact .inl (.inr ⟨o, cut_keep hd h fun z => nomatch z⟩)
  · exact .inr h
theorem sqL_cut {a : Addr} {xs : List V} (hd : ∀ u, G d = some u → u = .own p) (h : SqL K G a xs) : SqL K (cut G d) a xs := by
  rcases h with (h | ⟨o, h⟩) | h
  · exact .inl (.inl (cut_keep hd h fun z => nomatch z))
  · exact .inl (.inr ⟨o, cut_keep hd h fun z => nomatch z⟩)
  · exact .inr h
mutual
theorem Rp.cut (hd : ∀ u, G d = some u → u = .own p) : ∀ {v : V} {e : PyData}, Rp K G v e → Rp K (CK.cut G d) v e
  | _, _, .non => .non
  | _, _, .bl b => .bl b
  | _, _, .int i => .int i
  | _, _, .str x => .str x
  | _, _, .lst e r => .lst (cut_keep hd e fun z => nomatch z) (RpAll.cut hd r)
  | _, _, .tup e r => .tup (sqT_cut hd e) (RpAll.cut hd r)
  | _, _, .dic e r => .dic (cut_keep hd e fun z => nomatch z) (RpAll.cut hd r)
theorem RpAll.cut (hd : ∀ u, G d = some u → u = .own p) : ∀ {vs : List V} {ds : List PyData}, RpAll K G vs ds → RpAll K (CK.cut G d) vs ds
  | _, _, .nil => .nil
  | _, _, .cons a b => .cons (Rp.cut hd a) (RpAll.cut hd b)
end
theorem cut_none {a : Addr} (h : G a = none) : cut G d a = none := by
  by_cases e : a = d
  · rw [e]; exact cut_same
  · rw [cut_ne e]; exact h
variable {C : Addr} {σ σ0 : SS} {δ δ0 : List Sl} {G0 H0 : Hp}
theorem rel_cut (R : @Rel (plainAt C) K G H σ δ) (hH : H d = some (.own p)) : @Rel (plainAt C) K (cut G d) H σ δ := by
  obtain ⟨rsub, rlen, rslot, rinj, _⟩ := R
  have hd : ∀ u, G d = some u → u = .own p := fun u hu => by
    have := rsub _ _ hu
    rw [hH] at this
    cases this; rfl
  refine @Rel.mk (plainAt C) K _ H σ δ (fun a o h => rsub _ _ (cut_get h).2) rlen (fun k s hs => ?_) rinj trivial
  have hsl := rslot k s hs
  cases s with
  | no => trivial
  | im dd => obtain ⟨v, e, r⟩ := hsl; exact ⟨v, e, r.cut hd⟩
  | fz dd => obtain ⟨q, ws, e, h1, r⟩ := hsl; exact ⟨q, ws, e, sqL_cut hd h1, r.cut hd⟩
  | raw u => exact hsl
  | mo x => obtain ⟨_, _, m⟩ := hsl; exact m.elim
  | bx t dd => obtain ⟨q, us, e1, b, g, ra⟩ := hsl; exact ⟨q, us, e1, b, cut_none g, ra.cut hd⟩
theorem stp_cut {m : Memo} (st : @Stp m σ0 δ0 G0 H0 σ δ G H) (h0 : G0 d = none) : @Stp m σ0 δ0 G0 H0 σ δ (cut G d) H := by
  obtain ⟨keep, dom, same, grow⟩ := st
  refine @Stp.mk m _ _ _ _ _ _ _ _ keep dom (fun a o ha => ?_) fun a o ha => grow a o (cut_get ha).2
  rw [cut_ne]
  · exact same _ _ ha
  · intro z; rw [z, h0] at ha; cases ha
end
def FreshD (H : Hp) (v : V) : Prop := ∀ p, v = .ref p → ∃ d, d + 1 = p ∧ H d = none
theorem spD_mono {m : Memo} {K : PySem.W.Frag} {n : Nat} {f : Fn} {vs : List V} {H : Hp} {Q Q' : VK} {E : XK} (h : @spD m K n f vs H Q E) (q : ∀ v H', Q v H' → Q' v H') : @spD m K n f vs H Q' E := by
  obtain ⟨hl, G, as, r, as', R, e, k⟩ := h
  exact ⟨hl, G, as, r, as', R, e, fun v G' H' R' st rv => q v H' (k v G' H' R' st rv)⟩
theorem make_fresh {C : Addr} {K : PySem.W.Frag} {n : Nat} {fn : Fn} {as : List Ag} {σ : SS} {H : Hp} {Q : VK} {E : XK} (h : tMake C (@spD (plainAt C) K n fn) [] E (@tAg (plainAt C) K as) σ H fun v H2 => FreshD H v → Q v H2) : tMake C (@spD (plainAt C) K n fn) [] E (@tAg (plainAt C) K as) σ H Q := by
  obtain ⟨G, δ, ps, δ1, R, e, q⟩ := h
  refine ⟨G, δ, ps, δ1, R, e, fun vs G1 H1 R1 st1 aw x dx nx ndx ne => spD_mono (q vs G1 H1 R1 st1 aw x dx nx ndx ne) fun v H2 ⟨e1, q2⟩ => ⟨e1, q2 fun p hp => ?_⟩⟩
  cases hp
  obtain ⟨_, dom, _, _⟩ := st1
  exact ⟨dx.1, dx.2, dom _ ndx⟩
/-- a def that hands back a new machine: its dict is new -/
def spFr (C : Addr) (K : PySem.W.Frag) (n : Nat) (f : Fn) : Sp := fun vs H Q E => @spD (plainAt C) K n f vs H (fun v H' => FreshD H v → Q v H') E
section
variable {X : Cx} {C : Addr} {i : Nat} {Po : List Nat} {n : Nat} {fn : Fn} {as : List Ag} {B : Sm} {D : Ends} {σ : SS} {H : Hp}
/-- i = C(..); B; return i -/
theorem fresh_go (hi : i < σ.length) (hn : as.length + 1 = n) (h0 : ∀ δ r δ', dMake fn as δ = some (r, δ') → ∃ t ds, r = Sl.bx t ds) (hPo : Po.contains i = false)
    {D0 : Ends} (h : @tS (plainAt C) X.K Po (sSeq (sSet i (dMake fn as)) (sSeq B (sRetV i))) D0 σ H) (hrt : ∀ v H', D0.rt v H' → FreshD H v → D.rt v H') (hB : ∀ δ fl δ', B δ = some (fl, δ') → fl = .nx) (hb1 : ∀ δ δ', B δ = some (.nx, δ') → (∃ t ds, δ[i]? = some (Sl.bx t ds)) → ∃ t ds, δ'[i]? = some (.bx t ds)) :
    tSeq (tAsg (tMake C (@spD (plainAt C) X.K n fn) [] E0 (@tAg (plainAt C) X.K as)) (gName i)) (tSeq (@tS (plainAt C) X.K (i :: Po) B) (tRet (tVar i))) D σ H := by
  letI mm : Memo := plainAt C
  obtain ⟨G, δ, fl, δ', R, e, q⟩ := h
  unfold sSeq at e
  obtain ⟨⟨f1, δ1⟩, e1, e⟩ := bind_some_of e
  obtain ⟨⟨r, δa⟩, ea, e1⟩ := bind_some_of e1
  cases e1
  obtain ⟨⟨f2, δ2⟩, e2, e⟩ := bind_some_of (show (sSeq B (sRetV i) (δa.set i r)) = some (fl, δ') from e)
  have hf2 := hB _ _ _ e2
  subst hf2
  have eR : sRetV i δ2 = some (fl, δ') := e
  clear e
  obtain ⟨t, ds, rfl⟩ := h0 _ _ _ ea
  unfold tSeq tAsg
  refine make_fresh (C := C) (make_go (X := X) hn ⟨G, δ, .bx t ds, δa, R, ea, fun v G1 H1 R1 st1 rv fr => ?_⟩)
  obtain ⟨so, sn⟩ := rv.slot
  have R2 := R1.set (i := i) so fun p t ds e e2 => (sn p t ds e e2).1
  have st2 := Stp.setR (i := i) R1 st1 fun p t ds e e2 => (sn p t ds e e2).2
  obtain ⟨p, ws, rfl, _, _, _, hp, _⟩ := rv
  have hil : i < δa.length := by rw [← R1.len]; exact hi
  refine ⟨G1, δa.set i (.bx t ds), .nx, δ2, R2, e2, fun σ2 G2 H2 R3 st3 pin3 => ?_⟩
  have hσ : σ2[i]? = some (some (.ref p)) := (pin3 i List.mem_cons_self).trans (List.getElem?_set_self hi)
  refine ⟨.ref p, hσ, ?_⟩
  obtain ⟨t2, ds2, h2⟩ := hb1 _ _ e2 ⟨t, ds, List.getElem?_set_self hil⟩
  unfold sRetV at eR
  rw [h2] at eR
  cases eR
  obtain ⟨p', ws', e1', hb, hg, hr⟩ := R3.bx h2
  rw [hσ] at e1'
  cases e1'
  have pin : Pin Po σ σ2 := (Pin.set (i := i) hPo).trans fun k hk => pin3 k (List.mem_cons_of_mem _ hk)
  refine hrt _ _ (q σ2 G2 H2 (R3.drop i) ((st2.trans st3).trans ⟨fun a o h n => ⟨fun _ => h, fun z => n (own_drop z).1⟩, fun _ h => h, Same.refl _, fun _ _ h => .inl h⟩) pin _ ⟨p, ws', rfl, hb, hg, fun z => ?_, .inl hp, hr⟩) fr
  obtain ⟨_, j, hj, k1, u, es, k2⟩ := own_drop z
  exact hj (R3.inj j i p u t2 es ds2 k1 k2 hσ h2)
end
section
variable {P : Program} {w : World} {K : PySem.W.Frag} {mg : Str → Option Value} {base : Heap} {x qual : Str} {st : Stmt} {f : Addr} {fd : FuncData} {N ps : List Str} {C : Addr} {i k n m n2 : Nat} {Pn : List Nat} {fnI : Fn} {as : List Ag} {B : Sm}
/-- a def: i = C(..); B; return i -/
theorem forkFr_ok (F : Fun K x qual st f fd) (Sc : FnScope N ps (defScope st)) (hn : ps.length = n) (hN : N.length = n + m) (hP : ∀ i ∈ Pn, i < n) (hi : i < N.length) (hn2 : as.length + 1 = n2) (h0 : ∀ δ r δ', dMake fnI as δ = some (r, δ') → ∃ t ds, r = Sl.bx t ds) (hPo : Pn.contains i = false)
    (hB : ∀ δ fl δ', B δ = some (fl, δ') → fl = .nx) (hb1 : ∀ δ δ', B δ = some (.nx, δ') → (∃ t ds, δ[i]? = some (Sl.bx t ds)) → ∃ t ds, δ'[i]? = some (Sl.bx t ds))
    (hbody : ∀ (cdv : Value) (A : Around) (outer : List Env) (s : Shared) (H : Hp) (E : XK), A.guards = some [] → Room k (A.deeper (envOfC qual (defScope st) s.heap.objs.size f cdv)) →
      PSs (cxOf CX0 P w K mg base N qual (defScope st) f cdv A outer s H E).nox (defBody st) (tSeq (tAsg (tMake C (@spD (plainAt C) K n2 fnI) [] E0 (@tAg (plainAt C) K as)) (gName i)) (tSeq (@tS (plainAt C) K (i :: Pn) B) (tRet (tVar i))))) :
    FnG P w K mg base CX0 (k + 1) f fd ps (spFr C K n (fnD Pn m (sSeq (sSet i (dMake fnI as)) (sSeq B (sRetV i))))) := by
  obtain ⟨oc, od, kV, doc, pm, an, cdv, ct, osl, rfl, lk, hcd⟩ := F.ex
  refine fnG_of lk hcd Sc (fun vs H Q E h => h.1.trans hn.symm) fun A outer s H vs Q E hgd hr hsp => ?_
  have hlen : i < (L2.start N vs).length := by
    have h1 : vs.length = n := hsp.1
    unfold L2.start
    rw [List.length_append, List.length_map, List.length_replicate]
    omega
  have hb := @fn_body (plainAt C) _ _ _ _ _ _ _ _ _ _ hsp hN hP
  exact ⟨_, (hbody cdv A outer s H E hgd hr).nox, fresh_go (X := cxOf CX0 P w K mg base N qual (defScope st) f cdv A outer s H E) hlen hn2 h0 hPo hb (fun v H' q fr => q fr) hB hb1⟩
end
end CK
namespace CK
open PySem PySem.Spec PyProof.Rows L2
section
variable {Ev : Addr → Prop} {C pf : Addr} {K : PySem.W.Frag} {G G' H H' G0 H0 : Hp} {σ σ' σ0 : SS} {δ δ' δ0 : List Sl} {F : List FRow} {L : LD} {f j k : Nat} {x : FRow} {y : List PyData × PyData} {d p : Addr}
theorem FD.cut (h : FD K G F L) (hd : ∀ u, G d = some u → u = .own p) : FD K (CK.cut G d) F L := ⟨h.1, fun k x y h1 h2 => ⟨(h.2 k x y h1 h2).1.cut hd, (h.2 k x y h1 h2).2.cut hd⟩⟩
theorem FD.snoc (h : FD K G F L) (h1 : RpAll K G x.fs y.1) (h2 : Rp K G x.c y.2) : FD K G (F ++ [x]) (L ++ [y]) := by
  refine ⟨by rw [List.length_append, List.length_append, h.1]; rfl, fun i a b e1 e2 => ?_⟩
  by_cases hi : i < F.length
  · rw [List.getElem?_append_left hi] at e1
    rw [List.getElem?_append_left (by rw [← h.1]; exact hi)] at e2
    exact h.2 i a b e1 e2
  · rw [List.getElem?_append_right (by omega)] at e1
    rw [List.getElem?_append_right (by rw [← h.1]; omega)] at e2
    have hi0 : i - F.length = 0 := by
      have := (List.getElem?_eq_some_iff.mp e1).1
      simp at this; omega
    rw [hi0] at e1
    rw [← h.1, hi0] at e2
    cases e1; cases e2
    exact ⟨h1, h2⟩
theorem ad_snoc : FAd pf (F ++ [x]) = FAd pf F ++ [x.r, x.o, x.d] := by
  unfold FAd
  rw [List.flatMap_append]
  rfl
/-- a new row behind the others -/
theorem OpnF.snoc (Q : OpnF Ev C pf K σ0 δ0 G0 H0 F L G H σ δ) (hS0 : Same G0 H0) {q d : Addr} {ws : List V} {ds : List PyData} {c : V} {cd : PyData} (hp : H p = some (.ins C d (liFs.zip ws))) (hdp : d + 1 = p) (hd : H d = some (.own p)) (hq : H q = none) (gp : G p = none) (np : ¬ Own σ δ p)
    (ra : RpAll K G ws ds) (rc : Rp K G c cd) (fp : H0 p = none) (fdn : H0 d = none) (ap : p ∉ FAd pf F) (adn : d ∉ FAd pf F) (hl : F.length < sizeLine) :
    OpnF Ev C pf K σ0 δ0 G0 H0 (F ++ [⟨q, p, d, ws, c⟩]) (L ++ [(ds, cd)]) (CK.cut G d) (upd (upd H q (.lst [.ref p, c])) pf (.lst ((F.map fun x => V.ref x.r) ++ [.ref q]))) σ δ := by
  letI mm : Memo := plainAt C
  have QR := Q.R
  have sub : Same G H := by obtain ⟨a, _⟩ := QR; exact a
  have hpl : H pf = some (.lst (F.map fun x => .ref x.r)) := Q.O.at' _ op_l
  have hown : ∀ u, G d = some u → u = .own p := fun u hu => by
    have := sub _ _ hu
    rw [hd] at this
    cases this; rfl
  have nin : ∀ {a : Addr}, a ∈ FAd pf F → H a ≠ none := fun {a} ha z => by
    obtain ⟨o, ho, _⟩ := Q.O.nov ha
    rw [z] at ho; cases ho
  have aq : q ∉ FAd pf F := fun z => nin z hq
  have qp : q ≠ p := fun z => by rw [z, hp] at hq; cases hq
  have qd : q ≠ d := fun z => by rw [z, hd] at hq; cases hq
  have qf : q ≠ pf := fun z => aq (by rw [z]; exact List.mem_cons_self)
  have pd : p ≠ d := fun z => absurd (hdp.trans z) (Nat.succ_ne_self d)
  have pfp : p ≠ pf := fun z => ap (by rw [z]; exact List.mem_cons_self)
  have dpf : d ≠ pf := fun z => adn (by rw [z]; exact List.mem_cons_self)
  have nq : ¬ Own σ δ q := Q.R.freeOwn hq
  have nd : ¬ Own σ δ d := fun z => by
    obtain ⟨_, t, us, b⟩ := Q.R.gOwn z
    cases t with
    | l => have b : H d = some (.lst us) := b; rw [hd] at b; cases b
    | o fs => obtain ⟨dx, b⟩ := b; rw [hd] at b; cases b
    | d ks => have b : H d = some (.dK (ks.zip us)) := b; rw [hd] at b; cases b
  have oth : ∀ {a : Addr}, a ≠ q → a ≠ pf → upd (upd H q (.lst [.ref p, c])) pf (.lst ((F.map fun x => V.ref x.r) ++ [.ref q])) a = H a := fun {a} h1 h2 => by rw [upd_ne h2, upd_ne h1]
  have hs0 : H0 q = none := by
    obtain ⟨_, dom, _, _⟩ := Q.st
    exact dom _ hq
  have g0d : G0 d = none := hS0.free fdn
  have R1 := rel_cut (C := C) Q.R hd
  have R2 : @Rel (plainAt C) K (CK.cut G d) (upd H q (.lst [.ref p, c])) σ δ := R1.new hq
  have hpl2 : upd H q (.lst [.ref p, c]) pf = some (.lst (F.map fun x => .ref x.r)) := by rw [upd_ne (Ne.symm qf)]; exact hpl
  have R3 : @Rel (plainAt C) K (CK.cut G d) (upd (upd H q (.lst [.ref p, c])) pf (.lst ((F.map fun x => V.ref x.r) ++ [.ref q]))) σ δ := R2.poke hpl2 (cut_none (Q.g _ List.mem_cons_self)) (Q.n _ List.mem_cons_self)
  have mem : ∀ {a : Addr}, a ∈ FAd pf (F ++ [(⟨q, p, d, ws, c⟩ : FRow)]) → a ∈ FAd pf F ∨ a = q ∨ a = p ∨ a = d := fun {a} h => by
    rw [ad_snoc] at h
    rcases List.mem_append.mp h with h | h
    · exact .inl h
    · simp only [List.mem_cons, List.not_mem_nil, or_false] at h
      exact .inr h
  refine ⟨R3, Q.nm, ?_, ⟨⟨?_, fun z hz => ?_, by rw [List.length_append]; show F.length + 1 ≤ _; omega, fun a ha he => by
      rcases mem ha with z | z
      · exact Q.O.w a z he
      · obtain ⟨φ, hφ⟩ := Q.O.e a he
        rcases z with rfl | rfl | rfl
        · rw [hq] at hφ; cases hφ
        · rw [hp] at hφ; cases hφ
        · rw [hd] at hφ; cases hφ⟩, fun e he => ?_, fun a ha => by
      obtain ⟨φ, hφ⟩ := Q.O.e a ha
      refine ⟨φ, ?_⟩
      rw [oth (fun z => by rw [z, hq] at hφ; cases hφ) (fun z => by rw [z, hpl] at hφ; cases hφ)]
      exact hφ⟩, fun a ha => ?_, fun a ha => ?_, (Q.fd.cut hown).snoc (x := ⟨q, p, d, ws, c⟩) (y := (ds, cd)) (ra.cut hown) (rc.cut hown), fun a ha hn o ho => ?_⟩
  · have st := stp_cut (d := d) Q.st g0d
    obtain ⟨keep, dom, same, grow⟩ := st
    refine @Stp.mk (memoF Ev C pf K) _ _ _ _ _ _ _ _ (fun a o ha hn => ⟨fun nv => ?_, (keep a o ha hn).2⟩) (fun a ha => ?_) same grow
    · have h1 := (keep a o ha hn).1 nv
      have n1 : a ≠ q := fun z => by rw [z, hq] at h1; cases h1
      by_cases n2 : a = pf
      · subst n2
        exact absurd ⟨Q.v _ List.mem_cons_self hn o ha, Q.O.w _ List.mem_cons_self⟩ nv
      · rw [oth n1 n2]; exact h1
    · by_cases n2 : a = pf
      · rw [n2, upd_same] at ha; cases ha
      · by_cases n1 : a = q
        · rw [upd_ne n2, n1, upd_same] at ha; cases ha
        · rw [oth n1 n2] at ha; exact dom a ha
  · rw [ad_snoc]
    refine List.nodup_append.mpr ⟨Q.O.nd, ?_, fun a ha b hb e => ?_⟩
    · simp only [List.nodup_cons, List.mem_cons, List.not_mem_nil, or_false, not_or, not_false_eq_true, List.nodup_nil, and_true]
      exact ⟨⟨qp, qd⟩, pd⟩
    · simp only [List.mem_cons, List.not_mem_nil, or_false] at hb
      subst e
      rcases hb with rfl | rfl | rfl
      · exact aq ha
      · exact ap ha
      · exact adn ha
  · rcases List.mem_append.mp hz with hz | hz
    · exact Q.O.dp z hz
    · rw [List.mem_singleton.mp hz]; exact hdp
  · rcases op_mem he with rfl | ⟨z, hz, he⟩
    · show upd _ pf _ pf = _
      rw [upd_same, List.map_append]
      rfl
    · rcases List.mem_append.mp hz with hz | hz
      · have h1 := ad_r (pf := pf) hz
        have h2 := ad_o (pf := pf) hz
        have h3 := ad_d (pf := pf) hz
        obtain ⟨p1, _, _⟩ := nd_parts Q.O.nd
        obtain ⟨a1, a2, a3⟩ := p1 z hz
        rcases he with rfl | rfl | rfl
        · exact (oth (fun e => aq (by rw [← e]; exact h1)) (Ne.symm a1)).trans (Q.O.at' _ (op_r hz))
        · exact (oth (fun e => aq (by rw [← e]; exact h2)) (Ne.symm a2)).trans (Q.O.at' _ (op_o hz))
        · exact (oth (fun e => aq (by rw [← e]; exact h3)) (Ne.symm a3)).trans (Q.O.at' _ (op_d hz))
      · have hz := List.mem_singleton.mp hz
        subst hz
        rcases he with rfl | rfl | rfl
        · show upd (upd H q _) pf _ q = _
          rw [upd_ne qf, upd_same]
        · exact (oth (Ne.symm qp) pfp).trans hp
        · exact (oth (Ne.symm qd) dpf).trans hd
  · rcases mem ha with h | rfl | rfl | rfl
    · exact cut_none (Q.g a h)
    · exact cut_none (gfree sub hq)
    · exact cut_none gp
    · exact cut_same
  · rcases mem ha with h | rfl | rfl | rfl
    · exact Q.n a h
    · exact nq
    · exact np
    · exact nd
  · rcases mem ha with h | rfl | rfl | rfl
    · exact Q.v a h hn o ho
    · rw [hs0] at ho; cases ho
    · rw [fp] at ho; cases ho
    · rw [fdn] at ho; cases ho
end
def newO : Sl × List Sl → Option (List PyData × List PyData)
  | (.bx (.o fs) ds, [.bx (.o gs) es]) => if fs = liFs ∧ gs = liFs then some (ds, es) else none
  | _ => none
theorem newO_eq {z : Sl × List Sl} {ds es : List PyData} (h : newO z = some (ds, es)) : z = (.bx (.o liFs) ds, [.bx (.o liFs) es]) := by
  unfold newO at h
  split at h
  · obtain ⟨⟨e1, e2⟩, h⟩ := iteS h
    cases h
    rw [e1, e2]
  · cases h
def sAppF (f j : Nat) (fn : Fn) : Sm := fun δ => (famL δ[f]?).bind fun L => (rowK δ[j]?).bind fun k => L[k]?.bind fun y => if noMoB (clr f j δ) = true ∧ L.length < LINE then (fn [.bx (.o liFs) y.1]).bind fun z => (newO z).bind fun w => some (.nx, backS f j ((L.set k (w.2, y.2)) ++ [(w.1, y.2)]) k (clr f j δ)) else none
def tEnd (P : Program) (w : World) (t : TE) : TE := fun σ H Q => t σ H fun v H2 => ∀ h, HOk P w H2 h → Q v H2
theorem pe_end {X : Cx} {e : Expr} {t : TE} (h : PE X e t) : PE X e (tEnd X.prog X.w t) := ⟨fun pins s σ H Q I q => thn (h.run pins s σ H _ I q) fun u s1 ⟨v, H2, I2, r, q2⟩ => ⟨v, H2, I2, r, q2 _ I2.hok⟩⟩
section
variable {X : Cx} {Ev : Addr → Prop} {C pf : Addr} {b b1 : Expr} {f j k : Nat} {x z m : Str} {px px2 pos apos sp1 sp2 lp p2 ap2 cp2 ep : Pos} {g : Addr} {fd : FuncData} {ps : List Str} {fn : Fn} {P : List Nat}
theorem ds_appF {pl : Sem Bool} (f j : Nat) (hgd : X.A.guards = some []) (c : Cls X.K C) (hm : Meth X.K C m g) (FG : FnG X.prog X.w X.K X.mg X.base CX0 k g fd ps (spFr C X.K 1 fn)) (hr : Room k X.A) (hbd : Binds X.K fd ps []) (hb : PE X b (tC (.int 0))) (hb1 : PE X b1 (tC (.int 1)))
    (hc : liFs.contains m = false := by decide) (hN : X.N[j]? = some x := by rfl) (hNf : X.N[f]? = some z := by rfl) (hv : Vis X.env.scope x := by first | exact Or.inl rfl | exact Or.inr (Or.inl rfl) | exact Or.inr (Or.inr rfl)) (hvf : Vis X.env.scope z := by first | exact Or.inl rfl | exact Or.inr (Or.inl rfl) | exact Or.inr (Or.inr rfl))
    (hd : (x == ("__debug__" : Str)) = false := by decide) (hcd : (x == ("__classdict__" : Str)) = false := by decide) (hdf : (z == ("__debug__" : Str)) = false := by decide) (hcdf : (z == ("__classdict__" : Str)) = false := by decide) (hs : PlainIx b := by exact fun _ _ => rfl) (hs1 : PlainIx b1 := by exact fun _ _ => rfl)
    (ht : eval (.Call (.Attribute (.Subscript (.Name x px) b sp1) m apos) [] [] pos) X.env = (do
      let ov ← eval (.Subscript (.Name x px) b sp1) X.env
      standAt apos.atName
      let (f, first) ← holding [ov] (getMethod ov m pl)
      callWith pos f first (backTo pos (starEach [] X.env)) (backToKw pos (keywordEach [] X.env))) := by rfl)
    (hs2 : starEach [(.Call (.Attribute (.Subscript (.Name x px) b sp1) m apos) [] [] pos : Expr), .Subscript (.Name x px2) b1 sp2] X.env = (false, eval (.Call (.Attribute (.Subscript (.Name x px) b sp1) m apos) [] [] pos) X.env) :: starEach [(.Subscript (.Name x px2) b1 sp2 : Expr)] X.env := by rfl)
    (hs3 : starEach [(.Subscript (.Name x px2) b1 sp2 : Expr)] X.env = (false, eval (.Subscript (.Name x px2) b1 sp2) X.env) :: starEach [] X.env := by rfl)
    (hb2 : attributeBase (.Name z p2) "append" X.env (eval (.Name z p2) X.env) = eval (.Name z p2) X.env := by rfl)
    (hf2 : ((backTo cp2 (starEach [(.List [.Call (.Attribute (.Subscript (.Name x px) b sp1) m apos) [] [] pos, .Subscript (.Name x px2) b1 sp2] lp : Expr)] X.env)).all (fun x => !x.1) && (backToKw cp2 (keywordEach [] X.env)).all (fun x => x.1.isSome) && decide ([(.List [.Call (.Attribute (.Subscript (.Name x px) b sp1) m apos) [] [] pos, .Subscript (.Name x px2) b1 sp2] lp : Expr)].length + ([] : List Keyword).length + (if ([] : List Keyword).isEmpty then 0 else 1) < 30)) = true := by rfl)
    (hl2 : (ap2.endLine == cp2.line) = true := by rfl) (hq2 : starEach [(.List [.Call (.Attribute (.Subscript (.Name x px) b sp1) m apos) [] [] pos, .Subscript (.Name x px2) b1 sp2] lp : Expr)] X.env = (false, eval (.List [.Call (.Attribute (.Subscript (.Name x px) b sp1) m apos) [] [] pos, .Subscript (.Name x px2) b1 sp2] lp) X.env) :: starEach [] X.env := by rfl) (hn2 : (backTo cp2 (starEach [] X.env)).any (·.1) = false := by rfl)
    (hw2 : swapsWith (.Call (.Attribute (.Name z p2) "append" ap2) [.List [.Call (.Attribute (.Subscript (.Name x px) b sp1) m apos) [] [] pos, .Subscript (.Name x px2) b1 sp2] lp] [] cp2) none ep.line X.env = pure false := by rfl) :
    @DS (memoF Ev C pf X.K) X P (.Expr (.Call (.Attribute (.Name z p2) "append" ap2) [.List [.Call (.Attribute (.Subscript (.Name x px) b sp1) m apos) [] [] pos, .Subscript (.Name x px2) b1 sp2] lp] [] cp2) ep) (sAppF f j fn) :=
  PS.by (ps_hok (ps_swap (ps_expr (pe_bm PySem.F.plainAttrs_list PySem.F.slot_list_append PySem.F.type_list_append mt_append (pe_var hNf hvf hdf hcdf) (pa_cons (pe_lst (pa_cons (pe_end (pe_methG0 (pl := pl) hgd (pe_elt j (k := 0) hb hN hv hd hcd hs) c hm FG hr hbd pass0 ht)) (pa_cons (pe_elt j (k := 1) hb1 hN hv hd hcd hs1) pa_nil hs3) hs2)) pa_nil hq2) hb2 hf2 hl2 hq2 hn2) hw2))) fun D σ H h hh ok => by
    obtain ⟨G, δ, fl, δ', R, e, q⟩ := h
    obtain ⟨L, e1, e⟩ := bind_some_of e
    obtain ⟨k, e2, e⟩ := bind_some_of e
    obtain ⟨y, e3, e⟩ := bind_some_of e
    obtain ⟨⟨nmb, hLl⟩, e⟩ := iteS e
    obtain ⟨z0, e4, e⟩ := bind_some_of e
    obtain ⟨⟨dsN, ds'⟩, e5, e⟩ := bind_some_of e
    cases e
    have e5 := newO_eq e5
    subst e5
    obtain ⟨hpf, F, S, gn, fd⟩ := fam_at (R := R) e1
    obtain ⟨w, hw, hmw, ra, rc⟩ := fd.row e3
    have hj := row_at ok (R := R) S e2 hw
    obtain ⟨SW, O⟩ := fam_open (f := f) (j := j) R S gn fd (noMoB_of nmb)
    have R0 := R
    obtain ⟨sub0, _, _, _, _⟩ := R0
    have OR := O.R
    obtain ⟨osub, olen, _, _, _⟩ := OR
    have hl : (clr f j δ).length = σ.length := olen.symm
    have hdom : ∀ a, putL H (fOp C pf F) a = none → H a = none := putL_dom S.at' (by rw [keys_op, keys_sh])
    refine ⟨putL H (fOp C pf F), SW _ _, .ref pf, hpf, .inl ⟨rfl, _, SqL.of (O.O.at' _ op_l)⟩, ?_⟩
    refine ⟨w.r, [.ref w.o, w.c], .ref w.o, hj, O.O.at' _ (op_r hmw), rfl, w.o, w.d, liFs.zip w.fs, rfl, O.O.at' _ (op_o hmw), zip_none hc, ?_⟩
    refine O.call (E := E0) (as := [.io (clr f j δ).length]) (ps := [none]) (ss := [.bx (.o liFs) y.1]) (ss' := [.bx (.o liFs) ds']) (δ2 := clr f j δ) (ds' := ds') hw e3 (by simp [agI]) rfl ⟨?_, trivial⟩ ?_ e4 ?_ (noMoB_of nmb) fun v G2 H2 fs' O2 rv fr hh2 ok2 => ?_
    · rw [hl]; exact last_at σ _
    · show (match (clr f j δ ++ [Sl.bx (.o liFs) y.1])[(clr f j δ).length]? with | some (.bx t ds) => some (Sl.bx t ds) | some (.mo x) => some (Sl.mo x) | _ => none).bind _ = _
      rw [last_at]
      rfl
    · show (clr f j δ ++ [Sl.bx (.o liFs) y.1]).set (clr f j δ).length (.bx (.o liFs) ds') = _
      exact last_set _ _ _
    obtain ⟨p, ws, rfl, ⟨dx, hb'⟩, gp, np, hp0, rws⟩ := rv
    obtain ⟨d0, hd0, hdn⟩ := fr p rfl
    have hdx : dx.1 = d0 := Nat.succ.inj (dx.2.trans hd0.symm)
    obtain ⟨hown, _⟩ : ObjOk X.prog X.w H2 hh2 p (.ins C dx.1 (liFs.zip ws)) := ok2 _ _ hb'
    rw [hdx] at hb' hown
    have hk2 : (F.set k { w with fs := fs' })[k]? = some { w with fs := fs' } := List.getElem?_set_self (List.getElem?_eq_some_iff.mp hw).1
    have hm2 := List.mem_of_getElem? hk2
    have adE : FAd pf (F.set k { w with fs := fs' }) = FAd pf F := ad_set hw rfl rfl rfl
    have some0 : ∀ {a : Addr}, a ∈ FAd pf F → putL H (fOp C pf F) a ≠ none := fun {a} ha z => by
      obtain ⟨o, ho, _⟩ := O.O.nov ha
      rw [z] at ho; cases ho
    refine ⟨w.r, [.ref w.o, w.c], w.c, hj, O2.O.at' _ (op_r hm2), rfl, ?_⟩
    refine ⟨by show 2 ≤ sizeLine; rw [sizeLine_eq]; omega, fun qa hqa => ?_⟩
    have hqpf : pf ≠ qa := fun z => by
      have := O2.O.at' _ op_l
      have : H2 pf = some _ := this
      rw [z, hqa] at this; cases this
    obtain ⟨x1, hx1, _, _, rc2⟩ := O2.fd.row (k := k) (y := (ds', y.2)) (List.getElem?_set_self (List.getElem?_eq_some_iff.mp e3).1)
    rw [hk2] at hx1
    cases hx1
    have O3 := O2.snoc sub0 (q := qa) (c := w.c) hb' hd0 hown hqa gp np rws rc2 (hdom _ hp0) (hdom _ hdn) (by rw [adE]; exact fun z => some0 z hp0) (by rw [adE]; exact fun z => some0 z hdn) (by rw [List.length_set, fd.1, sizeLine_eq]; exact hLl)
    refine ⟨pf, (F.set k { w with fs := fs' }).map fun x => .ref x.r, .ref qa, rfl, rfl, by rw [upd_ne hqpf]; exact O2.O.at' _ op_l, by rw [List.length_map, List.length_set, fd.1, sizeLine_eq]; exact hLl, ?_⟩
    have hk3 : (F.set k { w with fs := fs' } ++ [(⟨qa, p, d0, ws, w.c⟩ : FRow)])[k]? = some { w with fs := fs' } := by
      rw [List.getElem?_append_left (List.getElem?_eq_some_iff.mp hk2).1]; exact hk2
    obtain ⟨R3, st3⟩ := O3.closeR hpf hk3 hj
    exact ⟨_, O3.O.swap, q σ _ _ R3 st3 Pin.refl⟩
end
end CK
namespace CK
open PySem PySem.Spec PyProof.Rows L2
def loopR (f j n : Nat) (B : Sm) : List Nat → Sm
  | [], δ => (famL δ[f]?).bind fun L => if L.length = n then some (.nx, δ) else none
  | k :: ks, δ => (famL δ[f]?).bind fun L => if L.length = n ∧ k < n ∧ j < δ.length then (B (δ.set j (.mo (rowI k)))).bind fun x => match x.1 with
    | .nx => loopR f j n B ks x.2
    | .ct => loopR f j n B ks x.2
    | .bk => some (.nx, x.2)
    | .rt r => some (.rt r, x.2) else none
def sForRow (f j : Nat) (B : Sm) : Sm := fun δ => (famL δ[f]?).bind fun L => if j < δ.length then loopR f j L.length B (List.range L.length) δ else none
theorem loopR_fam {f j n : Nat} {B : Sm} {ks : List Nat} {δ : List Sl} {r : Fl × List Sl} (h : loopR f j n B ks δ = some r) : ∃ L, famL δ[f]? = some L ∧ L.length = n := by
  cases ks with
  | nil =>
    obtain ⟨L, e1, h⟩ := bind_some_of (show ((famL δ[f]?).bind fun L => if L.length = n then some (Fl.nx, δ) else none) = some r from h)
    exact ⟨L, e1, (iteS h).1⟩
  | cons k ks =>
    unfold loopR at h
    obtain ⟨L, e1, h⟩ := bind_some_of h
    exact ⟨L, e1, (iteS h).1.1⟩
section
variable {X : Cx} {Ev : Addr → Prop} {C pf : Addr} {P0 : Program} {w : World} {f j : Nat} {P : List Nat} {B : Sm} {D : Ends} {σ : SS} {H : Hp} {K : PySem.W.Frag}
theorem forR_go (hp : P.contains j = false) (h : @tS (memoF Ev C pf K) K P (sForRow f j B) D σ H) : tSw P0 w (tFor (iList K (tVar f)) (gName j) (tSw P0 w (@tS (memoF Ev C pf K) K P B))) D σ H := by
  letI mm : Memo := memoF Ev C pf K
  obtain ⟨G, δ, fl, δ', R, e, q⟩ := h
  obtain ⟨L, e1, e⟩ := bind_some_of e
  obtain ⟨hjl, e⟩ := iteS e
  obtain ⟨hpf, F, S, gn, fd⟩ := fam_at (R := R) e1
  generalize hn : L.length = n at e
  refine ⟨putL H (fOp C pf F), S.swap, .ref pf, hpf, pf, rfl, ⟨_, SqL.of (S.opn.at' _ op_l)⟩, ?_⟩
  refine ⟨fun i m σ2 H2 => m = n - i ∧ i ≤ n ∧ ∃ (G2 : Hp) (δ2 : List Sl) (Hc : Hp) (F2 : List FRow) (L2 : LD), Rel K G2 Hc σ2 δ2 ∧ Stp σ δ G H σ2 δ2 G2 Hc ∧ Pin P σ σ2 ∧ loopR f j n B ((List.range n).drop i) δ2 = some (fl, δ') ∧ famL δ2[f]? = some L2 ∧ L2.length = n ∧ FamS Ev C pf Hc F2 ∧ (∀ a ∈ FAd pf F2, G2 a = none) ∧ FD K G2 F2 L2 ∧ H2 = putL Hc (fOp C pf F2),
    ⟨n, by omega, Nat.zero_le _, G, δ, H, F, L, R, Stp.refl, Pin.refl, e, e1, hn, S, gn, fd, rfl⟩, ?_⟩
  rintro i m σ2 H2 ⟨rfl, hi, G2, δ2, Hc, F2, L2, R2, st2, p2, el, f2, n2, S2, g2, fd2, rfl⟩
  have hlst : putL Hc (fOp C pf F2) pf = some (.lst (F2.map fun x => .ref x.r)) := S2.opn.at' _ op_l
  have hlen : (F2.map fun x => V.ref x.r).length = n := by rw [List.length_map, fd2.1, n2]
  by_cases hlt : i < n
  · have hr : (List.range n)[i]? = some i := by rw [List.getElem?_range hlt]
    have hx : F2[i]? = some (F2[i]'(by rw [fd2.1, n2]; exact hlt)) := List.getElem?_eq_getElem _
    generalize F2[i]'(by rw [fd2.1, n2]; exact hlt) = x at hx
    have hmx := List.mem_of_getElem? hx
    have hxr : (F2.map fun x => V.ref x.r)[i]? = some (.ref x.r) := by rw [List.getElem?_map, hx]; rfl
    refine .inr ⟨⟨_, _, SqL.of hlst, hxr⟩, fun σ3 H3 => ∃ (G3 : Hp) (δ3 : List Sl) (Hd : Hp) (F3 : List FRow) (L3 : LD), Rel K G3 Hd σ3 δ3 ∧ Stp σ δ G H σ3 δ3 G3 Hd ∧ Pin P σ σ3 ∧ loopR f j n B ((List.range n).drop (i + 1)) δ3 = some (fl, δ') ∧ famL δ3[f]? = some L3 ∧ L3.length = n ∧ FamS Ev C pf Hd F3 ∧ (∀ a ∈ FAd pf F3, G3 a = none) ∧ FD K G3 F3 L3 ∧ H3 = putL Hd (fOp C pf F3),
      fun σ3 H3 h => ⟨n - (i + 1), by omega, rfl, hlt, h⟩, fun v H3 y => ?_⟩
    obtain ⟨rfl, hy⟩ := y
    have hv := hy _ (SqL.of hlst)
    rw [hxr] at hv
    cases hv
    rw [drop_of hr] at el
    obtain ⟨L', e5, el⟩ := bind_some_of el
    obtain ⟨⟨_, _, hj2⟩, el⟩ := iteS el
    obtain ⟨⟨f4, δ4⟩, e4, el⟩ := bind_some_of el
    obtain ⟨φ, hφ⟩ := S2.ext (ad_r hmx)
    have M : MF Ev C pf K G2 Hc x.r (rowI i) := .inr ⟨F2.map fun x => .ref x.r, i, φ, rfl, S2.at' _ sh_l, hxr, hφ, g2 _ (ad_r hmx)⟩
    have R3 : Rel K G2 Hc (σ2.set j (some (.ref x.r))) (δ2.set j (.mo (rowI i))) := relMo R2 hj2 M
    have st3 : Stp σ δ G H (σ2.set j (some (.ref x.r))) (δ2.set j (.mo (rowI i))) G2 Hc := Stp.setR R2 st2 fun _ _ _ z => nomatch z
    refine ⟨Hc, swap_back S2, G2, _, f4, δ4, R3, e4, fun σ5 G5 H5 R5 st5 p5 => ?_⟩
    have stA := st3.trans st5
    have pA : Pin P σ σ5 := (p2.trans (Pin.set hp)).trans p5
    have nxt : loopR f j n B ((List.range n).drop (i + 1)) δ4 = some (fl, δ') → ∃ H6, Swap P0 w H5 H6 ∧ ∃ (G3 : Hp) (δ3 : List Sl) (Hd : Hp) (F3 : List FRow) (L3 : LD), Rel K G3 Hd σ5 δ3 ∧ Stp σ δ G H σ5 δ3 G3 Hd ∧ Pin P σ σ5 ∧ loopR f j n B ((List.range n).drop (i + 1)) δ3 = some (fl, δ') ∧ famL δ3[f]? = some L3 ∧ L3.length = n ∧ FamS Ev C pf Hd F3 ∧ (∀ a ∈ FAd pf F3, G3 a = none) ∧ FD K G3 F3 L3 ∧ H6 = putL Hd (fOp C pf F3) := fun el => by
      obtain ⟨L3, e6, n3⟩ := loopR_fam el
      obtain ⟨_, F3, S3, g3, fd3⟩ := fam_at (R := R5) e6
      exact ⟨_, S3.swap, G5, δ4, H5, F3, L3, R5, stA, pA, el, e6, n3, S3, g3, fd3, rfl⟩
    cases f4 with
    | nx => exact nxt el
    | ct => exact nxt el
    | bk =>
      cases el
      exact ⟨H5, Swap.refl, H5, Swap.refl, q σ5 G5 H5 R5 stA pA⟩
    | rt r =>
      cases el
      have qq := q σ5 G5 H5 R5 stA pA
      intro v rw
      exact ⟨H5, Swap.refl, H5, Swap.refl, (endOf.ahead st3 qq) v rw⟩
  · have e0 : i = n := by omega
    subst e0
    rw [show (List.range i).drop i = [] from List.drop_of_length_le (by simp)] at el
    obtain ⟨_, _, el⟩ := bind_some_of (show ((famL δ2[f]?).bind fun L => if L.length = i then some (Fl.nx, δ2) else none) = some (fl, δ') from el)
    obtain ⟨_, el⟩ := iteS el
    cases el
    exact .inl ⟨⟨_, SqL.of hlst, by rw [hlen]; exact Nat.le_refl _⟩, Hc, swap_back S2, q σ2 G2 Hc R2 st2 p2⟩
end
section
variable {X : Cx} {Ev : Addr → Prop} {C pf : Addr} {P : List Nat} {f j : Nat} {z x : Str} {pz px pos : Pos} {body : List Stmt} {B : Sm}
theorem ds_forRow (hpo : PassesOwn (model X.prog X.w) X.A X.env X.xe) (hc : X.calm = true) (hN : X.N.Nodup) (hi : X.N[j]? = some x) (hx : Loc X.env.scope x) (hf : X.N[f]? = some z) (hB : @DSs (memoF Ev C pf X.K) X P body B)
    (fx : X.fn x = true ∨ X.env.scope.names.lookup x = some .local) (hpj : P.contains j = false := by rfl)
    (hv : Vis X.env.scope z := by first | exact Or.inl rfl | exact Or.inr (Or.inl rfl) | exact Or.inr (Or.inr rfl)) (hd : (z == ("__debug__" : Str)) = false := by decide) (hcd : (z == ("__classdict__" : Str)) = false := by decide)
    (hs : ∀ v, foldedSetIterable (.Name z pz) X.env v = pure v := by intro _; rfl) :
    @DS (memoF Ev C pf X.K) X P (.For (.Name x px) (.Name z pz) body [] pos) (sForRow f j B) :=
  PS.by (ps_swap (ps_for hpo hc (pi_list (pe_var hf hv hd hcd)) (pg_name hN hi hx fx) (pss_swap hB) hs)) fun D σ H h => forR_go hpj h
end
end CK
namespace CK
open PySem PySem.Spec PyProof.Rows L2
/-- a machine that is only looked at -/
def macI (ds : List PyData) : Inf := ⟨1, .list ds, .none⟩
def macS : Option Sl → Option (List PyData)
  | some (.mo ⟨1, .list ds, .none⟩) => some ds
  | _ => none
theorem macS_eq {o : Option Sl} {ds : List PyData} (h : macS o = some ds) : o = some (.mo (macI ds)) := by
  unfold macS at h
  split at h
  · cases h; rfl
  · cases h
def FamG (C : Addr) (K : PySem.W.Frag) (G : Hp) (F : List FRow) (L : LD) : Prop := F.length = L.length ∧ ∀ (k : Nat) (x : FRow) (y : List PyData × PyData), F[k]? = some x → L[k]? = some y →
  G x.r = some (.lst [.ref x.o, x.c]) ∧ G x.o = some (.ins C x.d (liFs.zip x.fs)) ∧ RpAll K G x.fs y.1 ∧ Rp K G x.c y.2
def MR (C : Addr) (K : PySem.W.Frag) (G : Hp) (p : Addr) (x : Inf) : Prop :=
  (∃ ds ws d, x = macI ds ∧ G p = some (.ins C d (liFs.zip ws)) ∧ RpAll K G ws ds) ∨ ∃ F L, x = famI L ∧ G p = some (.lst (F.map fun x => .ref x.r)) ∧ FamG C K G F L
theorem FamG.same {C : Addr} {K : PySem.W.Frag} {G G' : Hp} {F : List FRow} {L : LD} (h : FamG C K G F L) (s : Same G G') : FamG C K G' F L := ⟨h.1, fun k x y h1 h2 => by
  obtain ⟨a, b, c, d⟩ := h.2 k x y h1 h2
  exact ⟨s _ _ a, s _ _ b, c.same s, d.same s⟩⟩
theorem MR.same {C : Addr} {K : PySem.W.Frag} {G G' : Hp} {p : Addr} {x : Inf} (h : MR C K G p x) (s : Same G G') : MR C K G' p x := by
  rcases h with ⟨ds, ws, d, e, h1, h2⟩ | ⟨F, L, e, h1, h2⟩
  · exact .inl ⟨ds, ws, d, e, s _ _ h1, h2.same s⟩
  · exact .inr ⟨F, L, e, s _ _ h1, h2.same s⟩
def memoR (C : Addr) (K : PySem.W.Frag) : Memo := ⟨C, fun _ _ => True, fun _ _ _ => trivial, fun _ => False, fun G _ p x => MR C K G p x, fun h s _ _ => h.same s, fun h => by
  rcases h with ⟨ds, ws, d, e, h1, h2⟩ | ⟨F, L, e, h1, h2⟩ <;> exact .inl (by rw [h1]; exact fun z => nomatch z)⟩
instance (C : Addr) (K : PySem.W.Frag) : Triv (memoR C K) := ⟨fun _ _ => trivial⟩
instance (C : Addr) (K : PySem.W.Frag) : Still (memoR C K) := ⟨fun _ z => z⟩
section
variable {K : PySem.W.Frag} {C : Addr} {G H : Hp} {σ : SS} {δ : List Sl} {i f : Nat} {ds : List PyData} {L : LD}
theorem mac_at (R : @Rel (memoR C K) K G H σ δ) (h : macS δ[i]? = some ds) : ∃ p d ws, σ[i]? = some (some (.ref p)) ∧ G p = some (.ins C d (liFs.zip ws)) ∧ H p = some (.ins C d (liFs.zip ws)) ∧ RpAll K G ws ds := by
  obtain ⟨rsub, rlen, rslot, rinj, _⟩ := R
  obtain ⟨p, e1, m⟩ := rslot i _ (macS_eq h)
  rcases m with ⟨ds', ws, d, ex, h1, h2⟩ | ⟨F, L, ex, _⟩
  · cases ex
    exact ⟨p, d, ws, getD_some e1, h1, rsub _ _ h1, h2⟩
  · cases ex
theorem famR_at (R : @Rel (memoR C K) K G H σ δ) (h : famL δ[f]? = some L) : ∃ p F, σ[f]? = some (some (.ref p)) ∧ G p = some (.lst (F.map fun x => .ref x.r)) ∧ FamG C K G F L := by
  obtain ⟨rsub, rlen, rslot, rinj, _⟩ := R
  obtain ⟨p, e1, m⟩ := rslot f _ (famL_eq h)
  rcases m with ⟨ds', ws, d, ex, h1, h2⟩ | ⟨F, L', ex, h1, h2⟩
  · cases ex
  · have e := famL_mo L
    rw [ex, famL_mo L'] at e
    cases e
    exact ⟨p, F, getD_some e1, h1, h2⟩
end
def dFldR (i : Nat) (f : Str) : Ex := fun δ => (macS δ[i]?).bind fun ds => ((liFs.zip ds).lookup f).bind fun d => some (.im d, δ)
def dMethR (m : Str) (fn : Fn) (i : Nat) : Ex := fun δ => (macS δ[i]?).bind fun _ => if liFs.contains m = false then dCall fn [.io i] δ else none
def dPropR (fn : Fn) (i : Nat) : Ex := fun δ => (macS δ[i]?).bind fun _ => dCall fn [.io i] δ
def dLenR (fn : Fn) (i : Nat) : Ex := fun δ => (dPropR fn i δ).bind fun y => match y.1 with
  | .im (.int n) => if 0 ≤ n ∧ n < 2 ^ 63 then some (.im (.int n), y.2) else none
  | _ => none
def dIsR (i : Nat) : Ex := fun δ => (macS δ[i]?).bind fun _ => some (.im (.bool true), δ)
def dEqR (fn : Fn) (i j : Nat) : Ex := fun δ => (macS δ[i]?).bind fun a => (macS δ[j]?).bind fun b => (dCall fn [.io i, .io j] δ).bind fun z => match z.1 with
  | .im (.bool k) => some (.im (.bool k), z.2)
  | _ => none
section
variable {X : Cx} {C : Addr} {k n i j : Nat} {f g p : Addr} {fd : FuncData} {ps : List Str} {fn : Fn} {x y m T : Str} {px py p1 p2 pos apos : Pos}
theorem callR_go {H : Hp} {Q : VK} {E : XK} {σ : SS} {ds : List PyData} {G : Hp} {δ δ' : List Sl} {r : Sl} (R : @Rel (memoR C X.K) X.K G H σ δ) (e0 : macS δ[i]? = some ds) (e : dCall fn [.io i] δ = some (r, δ'))
    (q : ∀ (v : V) (G2 H2 : Hp), @Rel (memoR C X.K) X.K G2 H2 σ δ' → @Stp (memoR C X.K) σ δ G H σ δ' G2 H2 → @RV (memoR C X.K) X.K G2 H2 H σ δ' v r → Q v H2) : ∃ p d ws, σ[i]? = some (some (.ref p)) ∧ H p = some (.ins C d (liFs.zip ws)) ∧ @spD (memoR C X.K) X.K 1 fn [.ref p] H Q E := by
  letI mm : Memo := memoR C X.K
  obtain ⟨p, d, ws, k1, k2, k3, k4⟩ := mac_at R e0
  refine ⟨p, d, ws, k1, k3, ?_⟩
  obtain ⟨G2, δ2, ps, δ3, R2, e2, q2⟩ := call_go (K := X.K) (f := fn) (E := E) (n := 1) (as := [.io i]) (Q := Q) (by simp [agI]) rfl ⟨G, δ, r, δ', R, e, q⟩
  obtain ⟨u, e4, e2⟩ := bind_some_of e2
  obtain ⟨⟨ps1, δ4⟩, e3, e2⟩ := bind_some_of e2
  cases e3
  cases e2
  exact q2 [.ref p] G2 H R2 Stp.refl ⟨k1, trivial⟩
theorem de_fldR {a : Str} (i : Nat) (c : Cls X.K C) (na : NoAttr X.K C a) (hN : X.N[i]? = some x := by rfl) (hv : Vis X.env.scope x := by first | exact Or.inl rfl | exact Or.inr (Or.inl rfl) | exact Or.inr (Or.inr rfl)) (hd : (x == ("__debug__" : Str)) = false := by decide)
    (hcd : (x == ("__classdict__" : Str)) = false := by decide) (hb : attributeBase (.Name x px) a X.env (eval (.Name x px) X.env) = eval (.Name x px) X.env := by rfl) : @DE (memoR C X.K) X (.Attribute (.Name x px) a pos) (dFldR i a) :=
  PE.by (pe_fld (pe_var hN hv hd hcd) hb) fun σ H Q h => by
    obtain ⟨G, δ, r, δ', R, e, q⟩ := h
    obtain ⟨ds, e0, e⟩ := bind_some_of e
    obtain ⟨d, e1, e⟩ := bind_some_of e
    cases e
    obtain ⟨p, dx, ws, k1, _, k2, k4⟩ := mac_at R e0
    obtain ⟨v, l, rv⟩ := zip_get k4 e1
    exact ⟨_, k1, p, _, dx, _, v, rfl, k2, c, na, l, q v G H R (@Stp.refl (memoR C X.K) _ _ _ _) rv⟩
theorem de_methR {pl : Sem Bool} (i : Nat) (hgd : X.A.guards = some []) (c : Cls X.K C) (hm : Meth X.K C m f) (F : FnG X.prog X.w X.K X.mg X.base CX0 k f fd ps (@spD (memoR C X.K) X.K 1 fn)) (hr : Room k X.A) (hb : Binds X.K fd ps [])
    (hN : X.N[i]? = some x := by rfl) (hv : Vis X.env.scope x := by first | exact Or.inl rfl | exact Or.inr (Or.inl rfl) | exact Or.inr (Or.inr rfl)) (hd : (x == ("__debug__" : Str)) = false := by decide) (hcd : (x == ("__classdict__" : Str)) = false := by decide)
    (ht : eval (.Call (.Attribute (.Name x px) m apos) [] [] pos) X.env = (do
      let ov ← eval (.Name x px) X.env
      standAt apos.atName
      let (f, first) ← holding [ov] (getMethod ov m pl)
      callWith pos f first (backTo pos (starEach [] X.env)) (backToKw pos (keywordEach [] X.env))) := by rfl) :
    @DE (memoR C X.K) X (.Call (.Attribute (.Name x px) m apos) [] [] pos) (dMethR m fn i) :=
  PE.by (pe_methG0 (pl := pl) hgd (pe_var hN hv hd hcd) c hm F hr hb pass0 ht) fun σ H Q h => by
    obtain ⟨G, δ, r, δ', R, e, q⟩ := h
    obtain ⟨ds, e0, e⟩ := bind_some_of e
    obtain ⟨hc, e⟩ := iteS e
    obtain ⟨p, d, ws, k1, k3, q2⟩ := callR_go (E := E0) R e0 e q
    exact ⟨_, k1, p, d, _, rfl, k3, zip_none hc, q2⟩
theorem de_propR {a : Str} (i : Nat) (hgd : X.A.guards = some []) (c : Cls X.K C) (hp : PropOf X.K C a p g) (F : FnG X.prog X.w X.K X.mg X.base CX0 k g fd ps (@spD (memoR C X.K) X.K 1 fn)) (hr : Room (k + 1) X.A) (hb : Binds X.K fd ps [])
    (hN : X.N[i]? = some x := by rfl) (hv : Vis X.env.scope x := by first | exact Or.inl rfl | exact Or.inr (Or.inl rfl) | exact Or.inr (Or.inr rfl)) (hd : (x == ("__debug__" : Str)) = false := by decide) (hcd : (x == ("__classdict__" : Str)) = false := by decide)
    (hab : attributeBase (.Name x px) a X.env (eval (.Name x px) X.env) = eval (.Name x px) X.env := by rfl) : @DE (memoR C X.K) X (.Attribute (.Name x px) a pos) (dPropR fn i) :=
  PE.by (pe_propG hgd (pe_var hN hv hd hcd) c hp F hr hb pass0 hab) fun σ H Q h => by
    obtain ⟨G, δ, r, δ', R, e, q⟩ := h
    obtain ⟨ds, e0, e⟩ := bind_some_of e
    obtain ⟨p, d, ws, k1, k3, q2⟩ := callR_go (E := E0) R e0 e q
    exact ⟨_, k1, p, d, _, rfl, k3, q2⟩
theorem de_lenR (i : Nat) (hgd : X.A.guards = some []) (hm : Meth X.K C "__len__" f) (F : FnG X.prog X.w X.K X.mg X.base CX0 k f fd ps (@spD (memoR C X.K) X.K 1 fn)) (hr : Room (k + 1) X.A) (hb : Binds X.K fd ps []) (hg : Gl X "len") (hml : X.mg "len" = none)
    (hN : X.N[i]? = some x := by rfl) (hv : Vis X.env.scope x := by first | exact Or.inl rfl | exact Or.inr (Or.inl rfl) | exact Or.inr (Or.inr rfl)) (hd : (x == ("__debug__" : Str)) = false := by decide) (hcd : (x == ("__classdict__" : Str)) = false := by decide)
    (hs : starEach [.Name x px] X.env = (false, eval (.Name x px) X.env) :: starEach [] X.env := by rfl) (hpl : (backTo pos (starEach [] X.env)).any (·.1) = false := by rfl) :
    @DE (memoR C X.K) X (.Call (.Name "len" p1) [.Name x px] [] pos) (dLenR fn i) :=
  PE.by (pe_callB (call_lenO hgd hm F hr hb pass0) hg hml (by decide +kernel) (pa_cons (pe_var hN hv hd hcd) pa_nil hs) (by decide) (by decide) hs hpl) fun σ H Q h => by
    obtain ⟨G, δ, r, δ', R, e, q⟩ := h
    obtain ⟨⟨z, δ1⟩, e1, e⟩ := bind_some_of e
    obtain ⟨n, rfl, n0, n1, rfl, rfl⟩ : ∃ n : Int, z = .im (.int n) ∧ 0 ≤ n ∧ n < 2 ^ 63 ∧ r = .im (.int n) ∧ δ1 = δ' := by
      cases z with
      | im d =>
        cases d with
        | int n =>
          obtain ⟨hc, e⟩ := iteS e
          cases e
          exact ⟨n, rfl, hc.1, hc.2, rfl, rfl⟩
        | _ => cases e
      | _ => cases e
    obtain ⟨ds, e0, e1⟩ := bind_some_of e1
    obtain ⟨p, d, ws, k1, k3, q2⟩ := callR_go (X := X) (E := E0) (Q := fun v H' => ∃ n : Int, v = .int n ∧ 0 ≤ n ∧ n < 2 ^ 63 ∧ Q (.int n) H') R e0 e1 fun v G1 H1 R1 st rv => ⟨n, (by have rv : Rp X.K G1 v (.int n) := rv; cases rv; rfl), n0, n1, q (.int n) G1 H1 R1 st (.int n)⟩
    exact ⟨_, k1, p, d, _, rfl, k3, q2⟩
theorem de_isR (i : Nat) (c : Cls X.K C) (E : EqC X.K C) (hg : Gl X "isinstance") (hm : X.mg "isinstance" = none) (hg2 : Gl X T) (hm2 : X.mg T = some (.ref C)) (hdb : (T == ("__debug__" : Str)) = false := by decide)
    (hN : X.N[i]? = some x := by rfl) (hv : Vis X.env.scope x := by first | exact Or.inl rfl | exact Or.inr (Or.inl rfl) | exact Or.inr (Or.inr rfl)) (hd : (x == ("__debug__" : Str)) = false := by decide) (hcd : (x == ("__classdict__" : Str)) = false := by decide)
    (hs : starEach [.Name x px, .Name T p2] X.env = (false, eval (.Name x px) X.env) :: starEach [.Name T p2] X.env := by rfl) (hs2 : starEach [.Name T p2] X.env = (false, eval (.Name T p2) X.env) :: starEach [] X.env := by rfl)
    (hpl : (backTo pos (starEach [.Name T p2] X.env)).any (·.1) = false := by rfl) : @DE (memoR C X.K) X (.Call (.Name "isinstance" p1) [.Name x px, .Name T p2] [] pos) (dIsR i) :=
  PE.by (pe_callB call_isi hg hm (by decide +kernel) (pa_cons (pe_var hN hv hd hcd) (pa_cons (pe_glob (v := .ref C) hg2 hm2 rfl hdb) pa_nil hs2) hs) (he := hs) (hpl := hpl)) fun σ H Q h => by
    obtain ⟨G, δ, r, δ', R, e, q⟩ := h
    obtain ⟨ds, e0, e⟩ := bind_some_of e
    cases e
    obtain ⟨p, dx, ws, k1, _, k2, k4⟩ := mac_at R e0
    exact ⟨_, k1, .ref p, .ref C, _, _, true, rfl, .own _, .base (.ins k2 c E.ic.ha E.ic.hn E.ic.ht E.ic.hm), kit_self, q (.bl true) G H R (@Stp.refl (memoR C X.K) _ _ _ _) (Rp.bl true)⟩
theorem de_eqR (i j : Nat) (hgd : X.A.guards = some []) (hu : X.A.units + 64 < cLine) (c : Cls X.K C) (hm : Meth X.K C "__eq__" f) (E : EqC X.K C) (F : FnG X.prog X.w X.K X.mg X.base CX0 k f fd ps (@spD (memoR C X.K) X.K 2 fn)) (hr : Room k X.A) (hb : Binds X.K fd ps [])
    (hN : X.N[i]? = some x := by rfl) (hM : X.N[j]? = some y := by rfl) (hv : Vis X.env.scope x := by first | exact Or.inl rfl | exact Or.inr (Or.inl rfl) | exact Or.inr (Or.inr rfl)) (hw : Vis X.env.scope y := by first | exact Or.inl rfl | exact Or.inr (Or.inl rfl) | exact Or.inr (Or.inr rfl))
    (hd : (x == ("__debug__" : Str)) = false := by decide) (hcd : (x == ("__classdict__" : Str)) = false := by decide) (hij : i ≠ j := by decide) (hd2 : (y == ("__debug__" : Str)) = false := by decide) (hcd2 : (y == ("__classdict__" : Str)) = false := by decide) :
    @DE (memoR C X.K) X (.Compare (.Name x px) [.Eq] [.Name y py] pos) (dEqR fn i j) :=
  PE.by (pe_cmpR (op_eqO hgd hu hm F hr hb pass0) (pe_var hN hv hd hcd) (pe_var hM hw hd2 hcd2) (nomark _)) fun σ H Q h => by
    letI mm : Memo := memoR C X.K
    obtain ⟨G, δ, r, δ', R, e, q⟩ := h
    obtain ⟨a, e0, e⟩ := bind_some_of e
    obtain ⟨b, e1, e⟩ := bind_some_of e
    obtain ⟨⟨z, δ1⟩, e2, e⟩ := bind_some_of e
    obtain ⟨k, rfl, rfl, rfl⟩ : ∃ k, z = .im (.bool k) ∧ r = .im (.bool k) ∧ δ1 = δ' := by
      cases z with
      | im d =>
        cases d with
        | bool k => cases e; exact ⟨k, rfl, rfl, rfl⟩
        | _ => cases e
      | _ => cases e
    obtain ⟨p, dx, ws, k1, g1, k2, k4⟩ := mac_at R e0
    obtain ⟨p2, dx2, ws2, j1, g2, j2, j4⟩ := mac_at R e1
    refine ⟨.ref p, k1, .ref p2, j1, p, dx, _, .ref C, rfl, k2, .base (.ins j2 c E.ic.ha E.ic.hn E.ic.ht E.ic.hm), by simp [PySem.W.notFirst], ?_⟩
    obtain ⟨G2, δ2, ps, δ3, R2, e3, q2⟩ := call_go (K := X.K) (f := fn) (E := E0) (n := 2) (as := [.io i, .io j]) (Q := fun v H' => ∃ k, v = .bl k ∧ Q (.bl k) H') (by simpa [agI] using hij) rfl
      ⟨G, δ, _, δ1, R, e2, fun v G1 H1 R1 st rv => ⟨k, (by have rv : Rp X.K G1 v (.bool k) := rv; cases rv; rfl), q (.bl k) G1 H1 R1 st (.bl k)⟩⟩
    obtain ⟨u, e4, e3⟩ := bind_some_of e3
    obtain ⟨⟨ps1, δ4⟩, e5, e3⟩ := bind_some_of e3
    cases e3
    obtain ⟨u2, e6, e5⟩ := bind_some_of e5
    obtain ⟨⟨ps2, δ5⟩, e7, e5⟩ := bind_some_of e5
    cases e7
    cases e5
    exact q2 [.ref p, .ref p2] G2 H R2 Stp.refl ⟨k1, j1, trivial⟩
end
end CK
namespace CK
open PySem PySem.Spec PyProof.Rows L2
def tgRow (j c : Nat) (y : List PyData × PyData) (δ : List Sl) : List Sl := (δ.set j (.mo (macI y.1))).set c (.im y.2)
def loopG (j c : Nat) (B : Sm) : LD → Sm
  | [], δ => some (.nx, δ)
  | y :: ys, δ => (B (tgRow j c y δ)).bind fun x => match x.1 with
    | .nx => loopG j c B ys x.2
    | .ct => loopG j c B ys x.2
    | .bk => some (.nx, x.2)
    | .rt r => some (.rt r, x.2)
def sForG (f j c : Nat) (B : Sm) : Sm := fun δ => (famL δ[f]?).bind fun L => loopG j c B L δ
def sRowG (f j c : Nat) (F : Ex) : Sm := fun δ => (famL δ[f]?).bind fun _ => (F δ).bind fun x => (intOf x.1).bind fun i => (famL x.2[f]?).bind fun L => (atI L i).bind fun y => some (.nx, tgRow j c y x.2)
theorem atI_both {α : Type} {L : List α} {i : Int} {y : α} (h : atI L i = some y) : ∃ k : Nat, L[k]? = some y ∧ ∀ {β : Type} (M : List β), M.length = L.length → atI M i = M[k]? := by
  obtain ⟨k, e, h⟩ := bind_some_of (show (ixN L.length i).bind (fun j => L[j]?) = some y from h)
  exact ⟨k, h, fun M hM => by show (ixN M.length i).bind (fun j => M[j]?) = _; rw [hM, e]; rfl⟩
section
variable {K : PySem.W.Frag} {C : Addr} {G H : Hp} {σ : SS} {δ : List Sl} {f j c : Nat} {L : LD} {x : FRow} {y : List PyData × PyData}
theorem row_store {G0 H0 : Hp} {σ0 : SS} {δ0 : List Sl} (R : @Rel (memoR C K) K G H σ δ) (st : @Stp (memoR C K) σ0 δ0 G0 H0 σ δ G H) (g2 : G x.o = some (.ins C x.d (liFs.zip x.fs))) (r1 : RpAll K G x.fs y.1) (r2 : Rp K G x.c y.2) :
    @Rel (memoR C K) K G H ((σ.set j (some (.ref x.o))).set c (some x.c)) (tgRow j c y δ) ∧ @Stp (memoR C K) σ0 δ0 G0 H0 ((σ.set j (some (.ref x.o))).set c (some x.c)) (tgRow j c y δ) G H := by
  letI mm : Memo := memoR C K
  have R1 : Rel K G H (σ.set j (some (.ref x.o))) (δ.set j (.mo (macI y.1))) := Rel.set R (i := j) (v := .ref x.o) (s := .mo (macI y.1)) ⟨x.o, rfl, .inl ⟨_, _, _, rfl, g2, r1⟩⟩ fun _ _ _ z => nomatch z
  have R2 : Rel K G H ((σ.set j (some (.ref x.o))).set c (some x.c)) ((δ.set j (.mo (macI y.1))).set c (.im y.2)) := Rel.set R1 (i := c) (v := x.c) (s := .im y.2) ⟨x.c, rfl, r2⟩ fun _ _ _ z => nomatch z
  exact ⟨R2, Stp.setR R1 (Stp.setR R st fun _ _ _ z => nomatch z) fun _ _ _ z => nomatch z⟩
end
theorem FamG.row {C : Addr} {K : PySem.W.Frag} {G : Hp} {F : List FRow} {L : LD} (h : FamG C K G F L) {k : Nat} {y : List PyData × PyData} (e : L[k]? = some y) : ∃ x, F[k]? = some x ∧ G x.r = some (.lst [.ref x.o, x.c]) ∧ G x.o = some (.ins C x.d (liFs.zip x.fs)) ∧ RpAll K G x.fs y.1 ∧ Rp K G x.c y.2 := by
  have hl := (List.getElem?_eq_some_iff.mp e).1
  have hl2 : k < F.length := by rw [h.1]; exact hl
  have hx : F[k]? = some F[k] := List.getElem?_eq_getElem hl2
  exact ⟨_, hx, h.2 k _ y hx e⟩
section
variable {X : Cx} {C : Addr} {P0 : Program} {w : World} {f j c : Nat} {P : List Nat} {B : Sm} {D : Ends} {σ : SS} {H : Hp} {K : PySem.W.Frag}
theorem forG_go (hpj : P.contains j = false) (hpc : P.contains c = false) (h : @tS (memoR C K) K P (sForG f j c B) D σ H) : tFor (iList K (tVar f)) (gLst K 2 (gCons (gName j) (gCons (gName c) gNil))) (@tS (memoR C K) K P B) D σ H := by
  letI mm : Memo := memoR C K
  obtain ⟨G, δ, fl, δ', R, e, q⟩ := h
  obtain ⟨L, e1, e⟩ := bind_some_of e
  obtain ⟨pf, F, hp, gp, fg⟩ := famR_at R e1
  have len : (F.map fun x => V.ref x.r).length = L.length := by rw [List.length_map]; exact fg.1
  refine ⟨.ref pf, hp, pf, rfl, ⟨_, SqL.of (R.sub _ _ gp)⟩, ?_⟩
  refine ⟨fun i m σ2 H2 => m = L.length - i ∧ i ≤ L.length ∧ ∃ (G2 : Hp) (δ2 : List Sl), Rel K G2 H2 σ2 δ2 ∧ Stp σ δ G H σ2 δ2 G2 H2 ∧ Pin P σ σ2 ∧ loopG j c B (L.drop i) δ2 = some (fl, δ'),
    ⟨L.length, by omega, Nat.zero_le _, G, δ, R, Stp.refl, Pin.refl, e⟩, ?_⟩
  rintro i m σ2 H2 ⟨rfl, hi, G2, δ2, R2, st2, p2, el⟩
  have gp2 : G2 pf = some (.lst (F.map fun x => .ref x.r)) := st2.same _ _ gp
  have hp2 := R2.sub _ _ gp2
  have fg2 := fg.same st2.same
  by_cases hlt : i < L.length
  · have hr : L[i]? = some L[i] := List.getElem?_eq_getElem hlt
    generalize L[i] = y at hr
    obtain ⟨x, hx, g1, g2, r1, r2⟩ := fg2.row hr
    have hxr : (F.map fun x => V.ref x.r)[i]? = some (.ref x.r) := by rw [List.getElem?_map, hx]; rfl
    refine .inr ⟨⟨_, _, SqL.of hp2, hxr⟩, fun σ3 H3 => ∃ (G3 : Hp) (δ3 : List Sl), Rel K G3 H3 σ3 δ3 ∧ Stp σ δ G H σ3 δ3 G3 H3 ∧ Pin P σ σ3 ∧ loopG j c B (L.drop (i + 1)) δ3 = some (fl, δ'),
      fun σ3 H3 h => ⟨L.length - (i + 1), by omega, rfl, hlt, h⟩, fun v H3 yy => ?_⟩
    obtain ⟨rfl, hy⟩ := yy
    have hv := hy _ (SqL.of hp2)
    rw [hxr] at hv
    cases hv
    rw [drop_of hr] at el
    obtain ⟨⟨f4, δ4⟩, e4, el⟩ := bind_some_of el
    obtain ⟨R3, st3⟩ := row_store (j := j) (c := c) R2 st2 g2 r1 r2
    refine ⟨x.r, [.ref x.o, x.c], rfl, SqL.of (R2.sub _ _ g1), rfl, .ref x.o, _, rfl, x.c, _, rfl, rfl, ?_⟩
    refine ⟨G2, _, f4, δ4, R3, e4, fun σ5 G5 H5 R5 st5 p5 => ?_⟩
    have stA := st3.trans st5
    have pA : Pin P σ σ5 := ((p2.trans (Pin.set hpj)).trans (Pin.set hpc)).trans p5
    cases f4 with
    | nx => exact ⟨G5, δ4, R5, stA, pA, el⟩
    | ct => exact ⟨G5, δ4, R5, stA, pA, el⟩
    | bk =>
      cases el
      exact q σ5 G5 H5 R5 stA pA
    | rt r =>
      cases el
      have qq := q σ5 G5 H5 R5 stA pA
      intro v rw
      exact (endOf.ahead st3 qq) v rw
  · have e0 : i = L.length := by omega
    subst e0
    rw [List.drop_length] at el
    cases el
    exact .inl ⟨⟨_, SqL.of hp2, by rw [len]; exact Nat.le_refl _⟩, q σ2 G2 H2 R2 st2 p2⟩
end
section
variable {X : Cx} {C : Addr} {P : List Nat} {f j c : Nat} {z x y : Str} {pz px py pt p1 pos : Pos} {kt : Nat} {body : List Stmt} {B : Sm} {e : Expr} {F : Ex}
theorem ds_forG (hpo : PassesOwn (model X.prog X.w) X.A X.env X.xe) (hc : X.calm = true) (hN : X.N.Nodup) (hi : X.N[j]? = some x) (hj : X.N[c]? = some y) (hx : Loc X.env.scope x) (hy : Loc X.env.scope y) (hf : X.N[f]? = some z) (hB : @DSs (memoR C X.K) X P body B)
    (fx : X.fn x = true ∨ X.env.scope.names.lookup x = some .local) (fy : X.fn y = true ∨ X.env.scope.names.lookup y = some .local) (hpj : P.contains j = false := by rfl) (hpc : P.contains c = false := by rfl)
    (hv : Vis X.env.scope z := by first | exact Or.inl rfl | exact Or.inr (Or.inl rfl) | exact Or.inr (Or.inr rfl)) (hd : (z == ("__debug__" : Str)) = false := by decide) (hcd : (z == ("__classdict__" : Str)) = false := by decide)
    (hs : ∀ v, foldedSetIterable (.Name z pz) X.env v = pure v := by intro _; rfl)
    (hn : (assignEach [(.Name x px : Expr), .Name y py] X.env).length = 2 := by rfl) (hst : (assignEach [(.Name x px : Expr), .Name y py] X.env).findIdx? (·.1) = none := by rfl) :
    @DS (memoR C X.K) X P (.For (.Tuple [.Name x px, .Name y py] kt pt) (.Name z pz) body [] pos) (sForG f j c B) :=
  PS.by (ps_for hpo hc (pi_list (pe_var hf hv hd hcd)) (pg_lst hc (pgs_cons (pg_name hN hi hx fx) (pgs_cons (pg_name hN hj hy fy) pgs_nil)) hn hst) hB hs) fun D σ H h => forG_go hpj hpc h
theorem ds_rowG (hc : X.calm = true) (hN : X.N.Nodup) (hi : X.N[j]? = some x) (hj : X.N[c]? = some y) (hx : Loc X.env.scope x) (hy : Loc X.env.scope y) (hf : X.N[f]? = some z) (he : @DE (memoR C X.K) X e F)
    (fx : X.fn x = true ∨ X.env.scope.names.lookup x = some .local) (fy : X.fn y = true ∨ X.env.scope.names.lookup y = some .local) (hpj : P.contains j = false := by rfl) (hpc : P.contains c = false := by rfl)
    (hv : Vis X.env.scope z := by first | exact Or.inl rfl | exact Or.inr (Or.inl rfl) | exact Or.inr (Or.inr rfl)) (hd : (z == ("__debug__" : Str)) = false := by decide) (hcd : (z == ("__classdict__" : Str)) = false := by decide) (hs : PlainIx e := by exact fun _ _ => rfl)
    (hn : (assignEach [(.Name x px : Expr), .Name y py] X.env).length = 2 := by rfl) (hst : (assignEach [(.Name x px : Expr), .Name y py] X.env).findIdx? (·.1) = none := by rfl)
    (hsw : swapsWithSole [.Tuple [.Name x px, .Name y py] kt pt] (.Subscript (.Name z pz) e p1) pos.line X.env = pure false := by rfl) (hw : swappedStores [.Tuple [.Name x px, .Name y py] kt pt] (.Subscript (.Name z pz) e p1) X.env = pure none := by rfl)
    (h1 : (assignEach [.Tuple [.Name x px, .Name y py] kt pt] X.env).map (·.2) = [assign (.Tuple [.Name x px, .Name y py] kt pt) X.env] := by rfl) :
    @DS (memoR C X.K) X P (.Assign [.Tuple [.Name x px, .Name y py] kt pt] (.Subscript (.Name z pz) e p1) pos) (sRowG f j c F) :=
  PS.by (ps_asg (pe_ix ix_list (pe_var hf hv hd hcd) he hs) (pg_lst hc (pgs_cons (pg_name hN hi hx fx) (pgs_cons (pg_name hN hj hy fy) pgs_nil)) hn hst) hsw hw h1) fun D σ H h => by
    letI mm : Memo := memoR C X.K
    obtain ⟨G, δ, fl, δ', R, e, q⟩ := h
    obtain ⟨L0, e1, e⟩ := bind_some_of e
    obtain ⟨⟨r1, δ1⟩, e2, e⟩ := bind_some_of e
    obtain ⟨i, e3, e⟩ := bind_some_of e
    obtain ⟨L, e4, e⟩ := bind_some_of e
    obtain ⟨y, e5, e⟩ := bind_some_of e
    cases e
    obtain ⟨pf0, F0, hp0, gp0, fg0⟩ := famR_at R e1
    refine ⟨.ref pf0, hp0, tD_run R e2 fun v G2 H2 R2 st2 rv => ?_⟩
    have hv := int_rv rv e3
    subst hv
    obtain ⟨pf, F, hp, gp, fg⟩ := famR_at R2 e4
    rw [hp0] at hp
    cases hp
    obtain ⟨k, hk, hM⟩ := atI_both e5
    obtain ⟨x, hx, g1, g2, ra, rc⟩ := fg.row hk
    obtain ⟨R3, st3⟩ := row_store (j := j) (c := c) R2 st2 g2 ra rc
    refine ⟨pf0, _, i, .ref x.r, rfl, rfl, SqL.of (R2.sub _ _ gp), by rw [hM _ (by rw [List.length_map]; exact fg.1), List.getElem?_map, hx]; rfl, ?_⟩
    exact ⟨x.r, [.ref x.o, x.c], rfl, SqL.of (R2.sub _ _ g1), rfl, .ref x.o, _, rfl, x.c, _, rfl, rfl, q _ G2 _ R3 st3 ((Pin.set hpj).trans (Pin.set hpc))⟩
end
def lcG (j c : Nat) (F : Ex) (vs : List Nat) : LD → List PyData → List Sl → Option (List PyData × List Sl)
  | [], acc, δ => some (acc, δ)
  | y :: ys, acc, δ => (F (tgRow j c y (wipeD δ vs))).bind fun z => z.1.sh.bind fun v => if acc.length < LINE then lcG j c F vs ys (acc ++ [v]) z.2 else none
def dLcG (n f j c : Nat) (F : Ex) : Ex := fun δ => if δ.length ≤ n then (famL δ[f]?).bind fun L => if calmD δ [j, c] = true then (lcG j c F [j, c] L [] δ).bind fun y => some (.bx .l y.1, unwipe δ y.2 [j, c]) else none else none
theorem wipe_set2 {σ : SS} {j c : Nat} {a b : Option V} : L2.wipe (((L2.wipe σ [j, c]).set j a).set c b) [j, c] = L2.wipe σ [j, c] := by
  refine List.ext_getElem? fun i => ?_
  rw [wipe_get, wipe_get, List.length_set, List.length_set, wipe_length]
  by_cases hi : i ∈ [j, c] ∧ i < σ.length
  · rw [if_pos hi, if_pos hi]
  · rw [if_neg hi, if_neg hi]
    by_cases hl : i < σ.length
    · have hn : i ∉ [j, c] := fun z => hi ⟨z, hl⟩
      simp only [List.mem_cons, List.not_mem_nil, or_false, not_or] at hn
      rw [List.getElem?_set_ne (Ne.symm hn.2), List.getElem?_set_ne (Ne.symm hn.1), wipe_get, if_neg hi]
    · rw [List.getElem?_eq_none (by simp only [List.length_set, wipe_length]; omega), List.getElem?_eq_none (by omega)]
section
variable {C : Addr} {f j c n : Nat} {F : Ex} {σ : SS} {H : Hp} {K : PySem.W.Frag} {Q : VK}
theorem lcG_go (h : @tD (memoR C K) K (dLcG n f j c F) σ H Q) : tLc (iList K (tVar f)) (gLst K 2 (gCons (gName j) (gCons (gName c) gNil))) (@tT (memoR C K) K tTrue) (@tD (memoR C K) K F) [j, c] σ H Q := by
  letI mm : Memo := memoR C K
  obtain ⟨G1, δ1, r, δ', R1, e, q⟩ := h
  obtain ⟨hln, e⟩ := iteS e
  obtain ⟨L, e1, e⟩ := bind_some_of e
  obtain ⟨hc, e⟩ := iteS e
  obtain ⟨⟨accF, δF⟩, e2, e⟩ := bind_some_of e
  cases e
  obtain ⟨pf, Fm, hp, gp, fg⟩ := famR_at R1 e1
  have len : (Fm.map fun x => V.ref x.r).length = L.length := by rw [List.length_map]; exact fg.1
  refine ⟨.ref pf, hp, pf, rfl, ⟨_, SqL.of (R1.sub _ _ gp)⟩, fun D hD => ?_⟩
  have slen : σ.length ≤ n := by rw [R1.len]; exact hln
  have RW0 : Rel K G1 H (L2.wipe σ [j, c]) (wipeD δ1 [j, c]) := R1.wipe rfl
  refine ⟨fun i m H' => m = L.length - i ∧ i ≤ L.length ∧ ∃ (G2 : Hp) (δ2 : List Sl) (acc : List PyData) (ws : List V), Rel K G2 H' (L2.wipe σ [j, c]) (wipeD δ2 [j, c]) ∧ Same G1 G2 ∧ δ2.length = δ1.length ∧ H' D = some (.lst ws) ∧ G2 D = none ∧ RpAll K G2 ws acc ∧
      ¬ Own (L2.wipe σ [j, c]) (wipeD δ2 [j, c]) D ∧ Stp (L2.wipe σ [j, c]) (wipeD δ1 [j, c]) G1 H (L2.wipe σ [j, c]) (wipeD δ2 [j, c]) G2 H' ∧ lcG j c F [j, c] (L.drop i) acc δ2 = some (accF, δF),
    ⟨L.length, by simp, Nat.zero_le _, G1, δ1, [], [], RW0.new hD, Same.refl _, rfl, upd_same, gfree R1.sub hD, .nil, RW0.freeOwn hD, Stp.new hD, e2⟩, ?_⟩
  rintro i m H2 ⟨rfl, hi, G2, δ2, acc, ws, R2, sg, dl, hD2, gD2, ra, no2, st2, el⟩
  have gp2 : G2 pf = some (.lst (Fm.map fun x => .ref x.r)) := sg _ _ gp
  have hp2 := R2.sub _ _ gp2
  have fg2 := fg.same sg
  by_cases hlt : i < L.length
  · have hr : L[i]? = some L[i] := List.getElem?_eq_getElem hlt
    generalize L[i] = y at hr
    obtain ⟨x, hx, g1, g2, r1, r2⟩ := fg2.row hr
    have hxr : (Fm.map fun x => V.ref x.r)[i]? = some (.ref x.r) := by rw [List.getElem?_map, hx]; rfl
    refine .inr ⟨⟨_, _, SqL.of hp2, hxr⟩, fun H3 => ∃ (G2 : Hp) (δ2 : List Sl) (acc : List PyData) (ws : List V), Rel K G2 H3 (L2.wipe σ [j, c]) (wipeD δ2 [j, c]) ∧ Same G1 G2 ∧ δ2.length = δ1.length ∧ H3 D = some (.lst ws) ∧ G2 D = none ∧ RpAll K G2 ws acc ∧
      ¬ Own (L2.wipe σ [j, c]) (wipeD δ2 [j, c]) D ∧ Stp (L2.wipe σ [j, c]) (wipeD δ1 [j, c]) G1 H (L2.wipe σ [j, c]) (wipeD δ2 [j, c]) G2 H3 ∧ lcG j c F [j, c] (L.drop (i + 1)) acc δ2 = some (accF, δF), fun H3 h => ⟨L.length - (i + 1), by omega, rfl, hlt, h⟩, fun v H3 yy => ?_⟩
    obtain ⟨rfl, hy⟩ := yy
    have hv := hy _ (SqL.of hp2)
    rw [hxr] at hv
    cases hv
    rw [drop_of hr] at el
    obtain ⟨⟨r6, δ6⟩, e6, el⟩ := bind_some_of el
    obtain ⟨dv, e7, el⟩ := bind_some_of el
    obtain ⟨hlen, el⟩ := iteS el
    obtain ⟨R4, st4⟩ := row_store (j := j) (c := c) R2 Stp.refl g2 r1 r2
    have hw := wipe_set2 (σ := σ) (j := j) (c := c) (a := some (.ref x.o)) (b := some x.c)
    refine ⟨x.r, [.ref x.o, x.c], rfl, SqL.of (R2.sub _ _ g1), rfl, .ref x.o, _, rfl, x.c, _, rfl, rfl, hw, ?_⟩
    refine ⟨G2, _, true, _, R4, rfl, fun G5 H5 R5 st5 => ?_⟩
    refine Eq.mpr (if_pos rfl) ?_
    refine tD_run R5 e6 fun v G6 H6 R6 st6 rv => ?_
    obtain ⟨G7, R7, st7, sg7, rp7⟩ := RV.shared R6 st6 rv e7
    have stB := (st4.trans st5).trans st7
    have stA := st2.trans stB
    obtain ⟨k1, k2⟩ := stB.keep D _ hD2 no2
    have k1 := k1 fun z => volL z.1
    have k3 : G7 D = none := by
      cases hx : G7 D with
      | none => rfl
      | some u =>
        rcases stB.grow D u hx with z | z | z
        · rw [gD2] at z; cases z
        · rw [hD2] at z; cases z
        · exact absurd z no2
    refine ⟨ws, k1, by rw [ra.length]; exact hlen, ?_⟩
    have dl6 : δ6.length = δ1.length := by rw [← R7.len, List.length_set, List.length_set, wipe_length, R1.len]
    have sgA := stB.same
    have R8 := (R7.poke (a := D) (o := .lst (ws ++ [v])) k1 k3 k2).wipe hw
    refine ⟨G7, δ6, acc ++ [dv], ws ++ [v], R8, sg.trans sgA, dl6, upd_same, k3, (ra.same sgA).append (.cons rp7 .nil), fun z => k2 (own_wipe R7 (by rw [hw]; exact z)), ?_, el⟩
    exact (stA.own_end fun a z => own_wipe R7 (by rw [hw]; exact z)).poke hD
  · have e0 : i = L.length := by omega
    subst e0
    rw [List.drop_length] at el
    cases el
    refine .inl ⟨⟨_, SqL.of hp2, by rw [len]; exact Nat.le_refl _⟩, ?_⟩
    have stE : Stp σ δ1 G1 H σ (unwipe δ1 δF [j, c]) G2 H2 := (st2.own_start fun a z => own_wipe R1 z).own_end fun a z => own_unwipe R1 hc dl.symm z
    exact q (.ref D) G2 H2 (Rel.unwipe R1 hc sg dl.symm R2) stE ⟨D, ws, rfl, hD2, gD2, fun z => no2 (own_unwipe R1 hc dl.symm z), hD, ra⟩
end
section
variable {X : Cx} {C : Addr} {f j c n : Nat} {x y z : Str} {px py pt pz pos : Pos} {kt : Nat} {elt : Expr} {scope : Scope} {F : Ex}
theorem de_lcG (hc : X.calm = true) (hN : X.N.Nodup) (hf : X.N[f]? = some z) (ok : BlkOk X.N X.env.scope scope [(x, j), (y, c)])
    (hg : ∀ (s : Shared) (H : Hp) (A : Addr) (cl : List (Str × Addr)) (fp : List Addr), PG (X.blk s H scope (compEnvC scope cl A X.env) fp) (.Tuple [.Name x px, .Name y py] kt pt) (gLst X.K 2 (gCons (gName j) (gCons (gName c) gNil))))
    (he : ∀ (s : Shared) (H : Hp) (A : Addr) (cl : List (Str × Addr)) (fp : List Addr), @DE (memoR C X.K) (X.blk s H scope (compEnvC scope cl A X.env) fp) elt F)
    (hv : Vis X.env.scope z := by first | exact Or.inl rfl | exact Or.inr (Or.inl rfl) | exact Or.inr (Or.inr rfl)) (hd : (z == ("__debug__" : Str)) = false := by decide) (hcd : (z == ("__classdict__" : Str)) = false := by decide)
    (hs : ∀ v, foldedSetIterable (.Name z pz) X.env v = pure v := by intro _; rfl) :
    @DE (memoR C X.K) X (.ListComp elt [⟨.Tuple [.Name x px, .Name y py] kt pt, .Name z pz, [], 0⟩] scope pos) (dLcG n f j c F) :=
  PE.by (pe_lc hc hN (pi_list (pe_var hf hv hd hcd)) ok hg (fun _ _ _ _ _ => @dts_nil (memoR C X.K) _) he hs) fun σ H Q h => lcG_go h
end
end CK
namespace CK
open PySem PySem.Spec PyProof.Rows L2
def dFamC (b f : Nat) (fn : Fn) : Ex := fun δ => (famL δ[f]?).bind fun L => (dRowS.imQ δ[b]?).bind fun kd => (fn [.im kd, .mo (famI L)]).bind fun z => match z.1 with
  | .im (.bool v) => some (.im (.bool v), δ)
  | _ => none
section
variable {Ev : Addr → Prop} {C pf : Addr} {K : PySem.W.Frag} {G H : Hp} {σ : SS} {δ : List Sl} {F : List FRow} {L : LD}
theorem FamS.ground (S : FamS Ev C pf H F) (g : ∀ a ∈ FAd pf F, G a = none) (sub : Same G H) (fd : FD K G F L) :
    Same G (putL G (fOp C pf F)) ∧ Same (putL G (fOp C pf F)) (putL H (fOp C pf F)) ∧ (putL G (fOp C pf F)) pf = some (.lst (F.map fun x => .ref x.r)) ∧ FamG C K (putL G (fOp C pf F)) F L := by
  have nd : (keysA (fOp C pf F)).Nodup := by rw [keys_op]; exact S.nd
  have sg : Same G (putL G (fOp C pf F)) := fun a o h => by
    rw [putL_out]
    · exact h
    · rw [keys_op]
      intro z
      rw [g a z] at h; cases h
  refine ⟨sg, fun a o h => ?_, putL_in nd op_l, fd.1, fun k x y h1 h2 => ?_⟩
  · by_cases z : a ∈ keysA (fOp C pf F)
    · obtain ⟨u, hu⟩ := key_at z
      rw [putL_in nd hu] at h ⊢
      exact h
    · rw [putL_out z] at h ⊢
      exact sub _ _ h
  · have hm := List.mem_of_getElem? h1
    obtain ⟨r1, r2⟩ := fd.2 k x y h1 h2
    exact ⟨putL_in nd (op_r hm), putL_in nd (op_o hm), r1.same sg, r2.same sg⟩
/-- called while it stands open, closed again -/
theorem famC_go {P : Program} {w : World} {fn : Fn} {kd : PyData} {bv : Bool} {ss' : List Sl} {vk : V} {Q : VK} {E : XK} (R : @Rel (memoF Ev C pf K) K G H σ δ) (S : FamS Ev C pf H F) (g : ∀ a ∈ FAd pf F, G a = none) (fd : FD K G F L) (rk : Rp K G vk kd)
    (e : fn [.im kd, .mo (famI L)] = some (.im (.bool bv), ss'))
    (q : ∀ H2 : Hp, @Rel (memoF Ev C pf K) K G H2 σ δ → @Stp (memoF Ev C pf K) σ δ G H σ δ G H2 → Q (.bl bv) H2) :
    @spD (memoR C K) K 2 fn [vk, .ref pf] (putL H (fOp C pf F)) (fun v H2 => ∃ H3, Swap P w H2 H3 ∧ Q v H3) E := by
  letI mm : Memo := memoR C K
  have sub : Same G H := by obtain ⟨a, _⟩ := R; exact a
  obtain ⟨s1, s2, hp, fg⟩ := S.ground (K := K) g sub fd
  refine ⟨rfl, putL G (fOp C pf F), [.im kd, .mo (famI L)], _, ss', ?_, e, fun v G2 H2 R2 st2 rv => ?_⟩
  · refine @Rel.mk mm K _ _ _ _ s2 rfl (fun l s hs => ?_) (fun l l2 a t u ds es h1 h2 => ?_) (Triv.all _ _)
    · match l, hs with
      | 0, hs => cases hs; exact ⟨vk, rfl, rk.same s1⟩
      | 1, hs => cases hs; exact ⟨pf, rfl, .inr ⟨F, L, rfl, hp, fg⟩⟩
      | l + 2, hs => simp at hs
    · match l, h2 with
      | 0, h2 => cases h2
      | 1, h2 => cases h2
      | l + 2, h2 => simp at h2
  · have rv : Rp K G2 v (.bool bv) := rv
    cases rv
    have no : ∀ a, ¬ Own ([vk, V.ref pf].map some) [.im kd, .mo (famI L)] a := fun a ⟨l, t, ds, h1, h2⟩ => by
      match l, h2 with
      | 0, h2 => cases h2
      | 1, h2 => cases h2
      | l + 2, h2 => simp at h2
    obtain ⟨keep, dom, same, grow⟩ := st2
    have kp : ∀ a o, putL H (fOp C pf F) a = some o → H2 a = some o := fun a o h => (keep a o h (no a)).1 fun z => z.2
    have O2 : FamO Ev C pf H2 F := S.opn.to (fun a o _ h => kp a o h) fun a φ _ h => kp a _ h
    have more : ∀ a o, H a = some o → putL H2 (fSh C pf F) a = some o := fun a o h => by
      by_cases z : a ∈ FAd pf F
      · obtain ⟨u, hu, ho⟩ := atL_get S.at' (by rw [keys_sh]; exact z)
        rw [h] at ho
        cases ho
        exact putL_in (by rw [keys_sh]; exact S.nd) hu
      · rw [putL_out (by rw [keys_sh]; exact z)]
        exact kp a o (by rw [putL_out (by rw [keys_op]; exact z)]; exact h)
    exact ⟨_, O2.swap, q _ (@Rel.more K G H _ σ δ (memoF Ev C pf K) _ R more) (@Stp.more G H _ σ δ (memoF Ev C pf K) more)⟩
end
section
variable {X : Cx} {Ev : Addr → Prop} {C pf : Addr} {k : Nat} {xa xb h : Str} {p sp0 sp1 pos : Pos} {g : Addr} {fd : FuncData} {ps : List Str} {fn : Fn}
theorem de_famC (b f : Nat) (hgd : X.A.guards = some []) (FG : FnG X.prog X.w X.K X.mg X.base CX0 k g fd ps (@spD (memoR C X.K) X.K 2 fn)) (hr : Room k X.A) (hg : Gl X h) (hmg : X.mg h = some (.ref g)) (hk : PySem.W.keepIn X.K (.ref g) = true)
    (hbd : Binds X.K fd ps []) (hNa : X.N[b]? = some xa := by rfl) (hNb : X.N[f]? = some xb := by rfl)
    (hva : Vis X.env.scope xa := by first | exact Or.inl rfl | exact Or.inr (Or.inl rfl) | exact Or.inr (Or.inr rfl)) (hvb : Vis X.env.scope xb := by first | exact Or.inl rfl | exact Or.inr (Or.inl rfl) | exact Or.inr (Or.inr rfl))
    (hda : (xa == ("__debug__" : Str)) = false := by decide) (hcda : (xa == ("__classdict__" : Str)) = false := by decide) (hd2 : (xb == ("__debug__" : Str)) = false := by decide) (hcd2 : (xb == ("__classdict__" : Str)) = false := by decide) (hdb : (h == ("__debug__" : Str)) = false := by decide)
    (he : starEach [(.Name xa sp0 : Expr), .Name xb sp1] X.env = (false, eval (.Name xa sp0) X.env) :: starEach [(.Name xb sp1 : Expr)] X.env := by rfl) (he2 : starEach [(.Name xb sp1 : Expr)] X.env = (false, eval (.Name xb sp1) X.env) :: starEach [] X.env := by rfl)
    (hpl : (backTo pos (starEach [(.Name xb sp1 : Expr)] X.env)).any (·.1) = false := by rfl) :
    @DE (memoF Ev C pf X.K) X (.Call (.Name h p) [.Name xa sp0, .Name xb sp1] [] pos) (dFamC b f fn) :=
  PE.by (pe_swap (pe_callG hgd FG hr hg hmg hk hbd pass0 (pa_cons (pe_var hNa hva hda hcda) (pa_cons (pe_var hNb hvb hd2 hcd2) pa_nil he2) he) hdb he hpl)) fun σ H Q hh => by
    obtain ⟨G, δ, r, δ', R, e, q⟩ := hh
    obtain ⟨L, e1, e⟩ := bind_some_of e
    obtain ⟨kd, e5, e⟩ := bind_some_of e
    obtain ⟨⟨z, ss'⟩, e6, e⟩ := bind_some_of e
    obtain ⟨bv, rfl, rfl, rfl⟩ : ∃ bv, z = .im (.bool bv) ∧ r = .im (.bool bv) ∧ δ = δ' := by
      cases z with
      | im d =>
        cases d with
        | bool k => cases e; exact ⟨k, rfl, rfl, rfl⟩
        | _ => cases e
      | _ => cases e
    obtain ⟨hp, F, S, gn, fd⟩ := fam_at (R := R) e1
    have e5 : δ[b]? = some (.im kd) := by
      unfold dRowS.imQ at e5
      split at e5
      · cases e5; assumption
      · cases e5
    have RR := R
    obtain ⟨_, _, rslot, _, _⟩ := RR
    obtain ⟨vb, sb, rb⟩ := rslot b _ e5
    exact ⟨putL H (fOp C pf F), S.swap, vb, getD_some sb, .ref pf, hp, famC_go (E := E0) R S gn fd rb e6 fun H2 R2 st2 => q (.bl bv) G H2 R2 st2 (Rp.bl bv)⟩
end
end CK
namespace CK
open PySem PySem.Spec PyProof.Rows L2
def RAd (r0 : Addr) (F : List FRow) : List Addr := r0 :: F.flatMap fun x => [x.r, x.o, x.d]
structure Prt (C : Addr) (K : PySem.W.Frag) (σ0 : SS) (δ0 : List Sl) (G0 H0 : Hp) (r0 p : Addr) (c : V) (F : List FRow) (L : LD) (G H : Hp) (σ : SS) (δ : List Sl) : Prop where
  R : @Rel (plainAt C) K G H σ δ
  st : @Stp (plainAt C) σ0 δ0 G0 H0 σ δ G H
  hr : H r0 = some (.lst [.ref p, c])
  hd : ∃ d, d + 1 = p ∧ H d = some (.own p)
  rows : ∀ x ∈ F, H x.r = some (.lst [.ref x.o, x.c]) ∧ H x.o = some (.ins C x.d (liFs.zip x.fs)) ∧ H x.d = some (.own x.o) ∧ x.d + 1 = x.o
  nd : (RAd r0 F).Nodup
  g : ∀ a ∈ RAd r0 F, G a = none
  n : ∀ a ∈ RAd r0 F, ¬ Own σ δ a
  f : ∀ a ∈ RAd r0 F, H0 a = none
  fd : FD K G F L
section
variable {C : Addr} {K : PySem.W.Frag} {σ0 σ σ' : SS} {δ0 δ δ' : List Sl} {G0 H0 G H G' H' : Hp} {r0 p : Addr} {c : V} {F : List FRow} {L : LD}
theorem rad_mem {a : Addr} (h : a ∈ RAd r0 F) : a = r0 ∨ ∃ x ∈ F, a = x.r ∨ a = x.o ∨ a = x.d := by
  rcases List.mem_cons.mp h with e | h
  · exact .inl e
  · obtain ⟨x, hx, h⟩ := List.mem_flatMap.mp h
    simp only [List.mem_cons, List.not_mem_nil, or_false] at h
    exact .inr ⟨x, hx, h⟩
theorem Prt.at (Q : Prt C K σ0 δ0 G0 H0 r0 p c F L G H σ δ) {a : Addr} (h : a ∈ RAd r0 F) : ∃ o, H a = some o ∧ ¬ VolO o := by
  rcases rad_mem h with rfl | ⟨x, hx, rfl | rfl | rfl⟩
  · exact ⟨_, Q.hr, fun ⟨_, y⟩ => nomatch y⟩
  · exact ⟨_, (Q.rows x hx).1, fun ⟨_, y⟩ => nomatch y⟩
  · exact ⟨_, (Q.rows x hx).2.1, fun ⟨_, y⟩ => nomatch y⟩
  · exact ⟨_, (Q.rows x hx).2.2.1, fun ⟨_, y⟩ => nomatch y⟩
theorem rad_r {x : FRow} (h : x ∈ F) : x.r ∈ RAd r0 F := List.mem_cons_of_mem _ (List.mem_flatMap.mpr ⟨x, h, by simp⟩)
theorem rad_o {x : FRow} (h : x ∈ F) : x.o ∈ RAd r0 F := List.mem_cons_of_mem _ (List.mem_flatMap.mpr ⟨x, h, by simp⟩)
theorem rad_d {x : FRow} (h : x ∈ F) : x.d ∈ RAd r0 F := List.mem_cons_of_mem _ (List.mem_flatMap.mpr ⟨x, h, by simp⟩)
theorem own_not {d : Addr} (R : @Rel (plainAt C) K G H σ δ) (hd : H d = some (.own p)) : ¬ Own σ δ d := fun z => by
  obtain ⟨_, t, us, b⟩ := @Rel.gOwn (plainAt C) _ _ _ _ _ R _ z
  cases t with
  | l => have b : H d = some (.lst us) := b; rw [hd] at b; cases b
  | o fs => obtain ⟨dx, b⟩ := b; rw [hd] at b; cases b
  | d ks => have b : H d = some (.dK (ks.zip us)) := b; rw [hd] at b; cases b
theorem Prt.step (Q : Prt C K σ0 δ0 G0 H0 r0 p c F L G H σ δ) (R1 : @Rel (plainAt C) K G' H' σ' δ') (st1 : @Stp (plainAt C) σ δ G H σ' δ' G' H') : Prt C K σ0 δ0 G0 H0 r0 p c F L G' H' σ' δ' := by
  have st2 := @Stp.trans (plainAt C) _ _ _ _ _ _ _ _ _ _ _ _ Q.st st1
  obtain ⟨keep, dom, same, grow⟩ := st1
  have kp : ∀ a o, a ∈ RAd r0 F → H a = some o → H' a = some o := fun a o ha ho => (keep a o ho (Q.n a ha)).1 fun z => z.2
  refine ⟨R1, st2, kp _ _ List.mem_cons_self Q.hr, ?_, fun x hx => ?_, Q.nd, fun a ha => ?_, fun a ha => ?_, Q.f, Q.fd.same same⟩
  · obtain ⟨d, e, hd⟩ := Q.hd
    exact ⟨d, e, (keep d _ hd (own_not Q.R hd)).1 fun z => z.2⟩
  · obtain ⟨a, b, d, e⟩ := Q.rows x hx
    exact ⟨kp _ _ (rad_r hx) a, kp _ _ (rad_o hx) b, kp _ _ (rad_d hx) d, e⟩
  · obtain ⟨o, ho, _⟩ := Q.at ha
    cases hz : G' a with
    | none => rfl
    | some u =>
      rcases grow a u hz with z | z | z
      · rw [Q.g a ha] at z; cases z
      · rw [ho] at z; cases z
      · exact absurd z (Q.n a ha)
  · obtain ⟨o, ho, _⟩ := Q.at ha
    exact (keep a o ho (Q.n a ha)).2
theorem rad_snoc {x : FRow} : RAd r0 (F ++ [x]) = RAd r0 F ++ [x.r, x.o, x.d] := by
  unfold RAd
  rw [List.flatMap_append]
  rfl
/-- one machine more, in a row of its own -/
theorem Prt.add (Q : Prt C K σ0 δ0 G0 H0 r0 p c F L G H σ δ) {q o d : Addr} {ws : List V} {ds : List PyData} {cd : PyData} (hp : H o = some (.ins C d (liFs.zip ws))) (hdp : d + 1 = o) (hd : H d = some (.own o)) (hq : H q = none) (gp : G o = none) (np : ¬ Own σ δ o)
    (ra : RpAll K G ws ds) (rc : Rp K G c cd) (fp : H0 o = none) (fdn : H0 d = none) (ap : o ∉ RAd r0 F) (adn : d ∉ RAd r0 F) (g0 : G0 d = none) :
    Prt C K σ0 δ0 G0 H0 r0 p c (F ++ [⟨q, o, d, ws, c⟩]) (L ++ [(ds, cd)]) (CK.cut G d) (upd H q (.lst [.ref o, c])) σ δ := by
  letI mm : Memo := plainAt C
  have sub : Same G H := Q.R.sub
  have hown : ∀ u, G d = some u → u = .own o := fun u hu => by
    have := sub _ _ hu
    rw [hd] at this
    cases this; rfl
  have aq : q ∉ RAd r0 F := fun z => by
    obtain ⟨u, hu, _⟩ := Q.at z
    rw [hq] at hu; cases hu
  have qp : q ≠ o := fun z => by rw [z, hp] at hq; cases hq
  have qd : q ≠ d := fun z => by rw [z, hd] at hq; cases hq
  have pd : o ≠ d := fun z => absurd (hdp.trans z) (Nat.succ_ne_self d)
  have nq : ¬ Own σ δ q := Q.R.freeOwn hq
  have nd : ¬ Own σ δ d := fun z => by
    obtain ⟨_, t, us, b⟩ := Q.R.gOwn z
    cases t with
    | l => have b : H d = some (.lst us) := b; rw [hd] at b; cases b
    | o fs => obtain ⟨dx, b⟩ := b; rw [hd] at b; cases b
    | d ks => have b : H d = some (.dK (ks.zip us)) := b; rw [hd] at b; cases b
  have hs0 : H0 q = none := by
    obtain ⟨_, dom, _, _⟩ := Q.st
    exact dom _ hq
  have R1 := rel_cut (C := C) Q.R hd
  have R2 : @Rel (plainAt C) K (CK.cut G d) (upd H q (.lst [.ref o, c])) σ δ := R1.new hq
  have st1 : @Stp (plainAt C) σ0 δ0 G0 H0 σ δ (CK.cut G d) (upd H q (.lst [.ref o, c])) := (stp_cut Q.st g0).trans (Stp.new hq)
  have mem : ∀ {a : Addr}, a ∈ RAd r0 (F ++ [(⟨q, o, d, ws, c⟩ : FRow)]) → a ∈ RAd r0 F ∨ a = q ∨ a = o ∨ a = d := fun {a} h => by
    rw [rad_snoc] at h
    rcases List.mem_append.mp h with h | h
    · exact .inl h
    · simp only [List.mem_cons, List.not_mem_nil, or_false] at h
      exact .inr h
  have old : ∀ {a : Addr} {u : HO}, H a = some u → upd H q (.lst [.ref o, c]) a = some u := fun {a u} h => by
    rw [upd_ne (fun z => by rw [z, hq] at h; cases h)]; exact h
  refine ⟨R2, st1, old Q.hr, by obtain ⟨d, e, hd⟩ := Q.hd; exact ⟨d, e, old hd⟩, fun z hz => ?_, ?_, fun a ha => ?_, fun a ha => ?_, fun a ha => ?_, (Q.fd.cut hown).snoc (x := ⟨q, o, d, ws, c⟩) (y := (ds, cd)) (ra.cut hown) (rc.cut hown)⟩
  · rcases List.mem_append.mp hz with hz | hz
    · obtain ⟨a, b, e, f⟩ := Q.rows z hz
      exact ⟨old a, old b, old e, f⟩
    · simp only [List.mem_cons, List.not_mem_nil, or_false] at hz
      subst hz
      exact ⟨upd_same, old hp, old hd, hdp⟩
  · rw [rad_snoc]
    refine List.nodup_append.mpr ⟨Q.nd, ?_, fun a ha b hb e => ?_⟩
    · simp only [List.nodup_cons, List.mem_cons, List.not_mem_nil, or_false, not_or, not_false_eq_true, List.nodup_nil, and_true]
      exact ⟨⟨qp, qd⟩, pd⟩
    · subst e
      simp only [List.mem_cons, List.not_mem_nil, or_false] at hb
      rcases hb with rfl | rfl | rfl
      · exact aq ha
      · exact ap ha
      · exact adn ha
  · rcases mem ha with z | rfl | rfl | rfl
    · exact cut_none (Q.g a z)
    · exact cut_none (gfree sub hq)
    · exact cut_none gp
    · exact cut_same
  · rcases mem ha with z | rfl | rfl | rfl
    · exact Q.n a z
    · exact nq
    · exact np
    · exact nd
  · rcases mem ha with z | rfl | rfl | rfl
    · exact Q.f a z
    · exact hs0
    · exact fp
    · exact fdn
end
section
variable {P : Program} {w : World} {C : Addr} {K : PySem.W.Frag} {σ : SS} {δ δ1 : List Sl} {G H G1 H1 : Hp} {fn : Fn} {i : Nat} {ds a e : List PyData} {Q : VK} {E : XK} {m : Str}
/-- what is known of a new machine -/
def NewM (C : Addr) (K : PySem.W.Frag) (G0 H0 G H : Hp) (σ : SS) (δ : List Sl) (o : Addr) (a : List PyData) : Prop := ∃ (d : Addr) (ws : List V), H o = some (.ins C d (liFs.zip ws)) ∧ d + 1 = o ∧ H d = some (.own o) ∧ H0 o = none ∧ H0 d = none ∧ G o = none ∧ ¬ Own σ δ o ∧ RpAll K G ws a
theorem newM_of {G0 H0 : Hp} {h : Heap} {v : V} (rv : @RV (plainAt C) K G H H0 σ δ v (.bx (.o liFs) a)) (fr : FreshD H0 v) (ok : HOk P w H h) : ∃ o, v = .ref o ∧ NewM C K G0 H0 G H σ δ o a := by
  obtain ⟨p, ws, rfl, ⟨dx, hb'⟩, gp, np, hp0, rws⟩ := rv
  obtain ⟨d0, hd0, hdn⟩ := fr p rfl
  have hdx : dx.1 = d0 := Nat.succ.inj (dx.2.trans hd0.symm)
  obtain ⟨hown, _⟩ : ObjOk P w H h p (.ins C dx.1 (liFs.zip ws)) := ok _ _ hb'
  rw [hdx] at hb' hown
  exact ⟨p, rfl, d0, ws, hb', hd0, hown, hp0, hdn, gp, np, rws⟩
/-- x.fork(), x in a slot -/
theorem fork_at (R : @Rel (plainAt C) K G H σ δ) (hi : δ[i]? = some (.bx (.o liFs) ds)) (e3 : fn [.bx (.o liFs) ds] = some (.bx (.o liFs) a, [.bx (.o liFs) e])) (hc : liFs.contains m = false)
    (q : ∀ (o : Addr) (G2 H2 : Hp), @Rel (plainAt C) K G2 H2 σ (δ.set i (.bx (.o liFs) e)) → @Stp (plainAt C) σ δ G H σ (δ.set i (.bx (.o liFs) e)) G2 H2 → NewM C K G H G2 H2 σ (δ.set i (.bx (.o liFs) e)) o a → Q (.ref o) H2) :
    tEnd P w (tMeth C m (spFr C K 1 fn) [] E (tVar i) tNil) σ H Q := by
  letI mm : Memo := plainAt C
  obtain ⟨p, us, k1, ⟨dx, k2⟩, k3, k4⟩ := R.bx hi
  refine ⟨.ref p, k1, p, dx.1, _, rfl, k2, zip_none hc, ?_⟩
  show @spD mm K 1 fn [.ref p] H (fun v H' => FreshD H v → ∀ h, HOk P w H' h → Q v H') E
  refine call_core (as := [.io i]) (ps := [none]) (vs := [.ref p]) (ss := [.bx (.o liFs) ds]) (by simp [agI]) rfl R ⟨k1, trivial⟩ ?_ e3 (.inl fun _ z => z) fun v G2 H2 R2 st2 rv fr hh ok => ?_
  · show (match δ[i]? with | some (.bx t ds) => some (Sl.bx t ds) | some (.mo x) => some (Sl.mo x) | _ => none).bind _ = _
    rw [hi]
    rfl
  · obtain ⟨o, rfl, N⟩ := newM_of (G0 := G) rv fr ok
    exact q o G2 H2 R2 st2 N
/-- .. of a machine just made, that is in no slot -/
theorem fork_new {b e' a2 : List PyData} {o : Addr} (R : @Rel (plainAt C) K G1 H1 σ δ1) (st : @Stp (plainAt C) σ δ G H σ δ1 G1 H1) (N : NewM C K G H G1 H1 σ δ1 o b) (e3 : fn [.bx (.o liFs) b] = some (.bx (.o liFs) a2, [.bx (.o liFs) e']))
    (q : ∀ (o2 : Addr) (G2 H2 : Hp), @Rel (plainAt C) K G2 H2 σ δ1 → @Stp (plainAt C) σ δ G H σ δ1 G2 H2 → NewM C K G1 H1 G2 H2 σ δ1 o2 a2 → Q (.ref o2) H2) :
    spFr C K 1 fn [.ref o] H1 (fun v H2 => ∀ h, HOk P w H2 h → Q v H2) E := by
  letI mm : Memo := plainAt C
  obtain ⟨d, ws, k2, kd, k3, k4, k5, k6, k7, k8⟩ := N
  have hl : σ.length = δ1.length := R.len
  have P1 := R.push (v := .ref o) (s := .bx (.o liFs) b) ⟨o, ws, rfl, ⟨⟨d, kd⟩, k2⟩, k6, k8⟩ fun p t ds _ e => by cases e; exact k7
  have S1 := Stp.push hl st (o := some (.ref o)) (s := .bx (.o liFs) b) fun p t ds _ e2 => by cases e2; exact k4
  show @spD mm K 1 fn [.ref o] H1 (fun v H' => FreshD H1 v → ∀ h, HOk P w H' h → Q v H') E
  refine call_core (as := [.io δ1.length]) (ps := [none]) (vs := [.ref o]) (ss := [.bx (.o liFs) b]) (by simp [agI]) rfl P1 ⟨by rw [← hl]; exact last_at σ _, trivial⟩ ?_ e3 (.inl fun _ z => z) fun v G2 H2 R2 st2 rv fr hh ok => ?_
  · show (match (δ1 ++ [Sl.bx (.o liFs) b])[δ1.length]? with | some (.bx t ds) => some (Sl.bx t ds) | some (.mo x) => some (Sl.mo x) | _ => none).bind _ = _
    rw [last_at]
    rfl
  · have hB : agB [Ag.io δ1.length] [.bx (.o liFs) e'] (δ1 ++ [.bx (.o liFs) b]) = δ1 ++ [.bx (.o liFs) e'] := last_set _ _ _
    rw [hB] at R2 st2 rv
    have R3 := Rel.pop (by rw [List.length_append, List.length_append]; show δ1.length + 1 = σ.length + 1; omega) R2
    have st3 := S1.trans st2
    have st4 := st3.pop
    rw [hl, List.take_left' rfl] at R3
    rw [hl, List.take_left' rfl] at st4
    obtain ⟨o2, rfl, d2, ws2, a1, a2', a3, a4, a5, a6, a7, a8⟩ := newM_of (G0 := G1) rv fr ok
    exact q o2 G2 H2 R3 st4 ⟨d2, ws2, a1, a2', a3, a4, a5, a6, fun z => a7 (own_push0 (by rw [hl]) z), a8⟩
end
end CK
namespace CK
open PySem PySem.Spec PyProof.Rows L2
section
variable {C : Addr} {K : PySem.W.Frag} {σ0 σ σ' : SS} {δ0 δ δ' : List Sl} {G0 H0 G H G' H' : Hp} {r0 p d pf : Addr} {c : V} {F : List FRow} {L : LD} {i f j : Nat} {ds : List PyData} {cd : PyData}
def EvOf (H0 : Hp) (a : Addr) : Prop := ∃ φ, H0 a = some (.ext φ)
theorem noMo_pl (R : @Rel (plainAt C) K G H σ δ) : noMoK δ := fun k x e => by
  obtain ⟨_, _, rslot, _, _⟩ := R
  obtain ⟨p, _, m⟩ := rslot k _ e
  exact m
/-- the list of the rows, the first one's machine handed over -/
theorem Prt.fam (R0 : @Rel (plainAt C) K G0 H0 σ0 δ0) (Q : Prt C K σ0 δ0 G0 H0 r0 p c F L G H σ δ) (hi : δ[i]? = some (.bx (.o liFs) ds)) (hσ : σ[i]? = some (some (.ref p))) (hdp : d + 1 = p) (hd : H d = some (.own p)) (hp0 : H0 p = none) (hd0 : H0 d = none)
    (rc : Rp K G c cd) (hpf : H pf = none) (hl : F.length + 1 ≤ sizeLine) :
    ∃ F', F'.map (fun x => V.ref x.r) = .ref r0 :: F.map (fun x => V.ref x.r) ∧ OpnF (EvOf H0) C pf K σ0 δ0 G0 H0 F' ((ds, cd) :: L) (CK.cut G d) (upd H pf (.lst (.ref r0 :: F.map fun x => V.ref x.r))) σ (δ.set i .no) := by
  letI mm : Memo := plainAt C
  have sub : Same G H := Q.R.sub
  have sub0 : Same G0 H0 := R0.sub
  obtain ⟨p', ws, k1, ⟨dx, k2⟩, k3, k4⟩ := Q.R.bx hi
  rw [hσ] at k1
  cases k1
  have hdx : dx.1 = d := Nat.succ.inj (dx.2.trans hdp.symm)
  rw [hdx] at k2
  have op : Own σ δ p := ⟨i, _, _, hσ, hi⟩
  have hown : ∀ u, G d = some u → u = .own p := fun u hu => by
    have := sub _ _ hu
    rw [hd] at this
    cases this; rfl
  have np : p ∉ RAd r0 F := fun z => Q.n _ z op
  have ndr : d ∉ RAd r0 F := fun z => by
    rcases rad_mem z with rfl | ⟨x, hx, rfl | rfl | rfl⟩
    · have := Q.hr; rw [hd] at this; cases this
    · have := (Q.rows x hx).1; rw [hd] at this; cases this
    · have := (Q.rows x hx).2.1; rw [hd] at this; cases this
    · have h1 := (Q.rows x hx).2.2
      rw [hd] at h1
      have := h1.1
      injection this with this
      injection this with this
      exact np (by rw [this]; exact rad_o hx)
  have nfr : pf ∉ RAd r0 F := fun z => by
    obtain ⟨u, hu, _⟩ := Q.at z
    rw [hpf] at hu; cases hu
  have pd : p ≠ d := fun z => absurd (hdp.trans z) (Nat.succ_ne_self d)
  have fp : pf ≠ p := fun z => by rw [z, k2] at hpf; cases hpf
  have fdd : pf ≠ d := fun z => by rw [z, hd] at hpf; cases hpf
  have nd' : ¬ Own σ δ d := fun z => by
    obtain ⟨_, t, us, b⟩ := Q.R.gOwn z
    cases t with
    | l => have b : H d = some (.lst us) := b; rw [hd] at b; cases b
    | o fs => obtain ⟨dx, b⟩ := b; rw [hd] at b; cases b
    | d ks => have b : H d = some (.dK (ks.zip us)) := b; rw [hd] at b; cases b
  have nown : ¬ Own σ (δ.set i .no) p := fun z => by
    obtain ⟨_, j, hj, z1, u, es, z2⟩ := own_drop z
    exact hj (Q.R.inj j i p u _ es ds z1 z2 hσ hi)
  have g0d : G0 d = none := gfree sub0 hd0
  have R1 := rel_cut (C := C) Q.R hd
  have R2 : @Rel (plainAt C) K (CK.cut G d) (upd H pf (.lst (.ref r0 :: F.map fun x => V.ref x.r))) σ (δ.set i .no) := Rel.drop (R1.new hpf) i
  have st1 : @Stp (plainAt C) σ0 δ0 G0 H0 σ δ (CK.cut G d) (upd H pf (.lst (.ref r0 :: F.map fun x => V.ref x.r))) := (stp_cut Q.st g0d).trans (Stp.new hpf)
  have st2 : @Stp (plainAt C) σ0 δ0 G0 H0 σ (δ.set i .no) (CK.cut G d) (upd H pf (.lst (.ref r0 :: F.map fun x => V.ref x.r))) := st1.own_end fun a z => (own_drop z).1
  have old : ∀ {a : Addr} {u : HO}, H a = some u → upd H pf (.lst (.ref r0 :: F.map fun x => V.ref x.r)) a = some u := fun {a u} h => by
    rw [upd_ne (fun z => by rw [z, hpf] at h; cases h)]; exact h
  have hs0 : H0 pf = none := by
    obtain ⟨_, dom, _, _⟩ := Q.st
    exact dom _ hpf
  refine ⟨⟨r0, p, d, ws, c⟩ :: F, rfl, ?_⟩
  have mem : ∀ {a : Addr}, a ∈ FAd pf ((⟨r0, p, d, ws, c⟩ : FRow) :: F) → a = pf ∨ a = p ∨ a = d ∨ a ∈ RAd r0 F := fun {a} h => by
    rcases List.mem_cons.mp h with h | h
    · exact .inl h
    · rcases List.mem_flatMap.mp h with ⟨x, hx, h⟩
      simp only [List.mem_cons, List.not_mem_nil, or_false] at h
      rcases List.mem_cons.mp hx with rfl | hx
      · rcases h with rfl | rfl | rfl
        · exact .inr (.inr (.inr List.mem_cons_self))
        · exact .inr (.inl rfl)
        · exact .inr (.inr (.inl rfl))
      · refine .inr (.inr (.inr ?_))
        rcases h with rfl | rfl | rfl
        · exact rad_r hx
        · exact rad_o hx
        · exact rad_d hx
  have new : ∀ {a : Addr}, a ∈ FAd pf ((⟨r0, p, d, ws, c⟩ : FRow) :: F) → H0 a = none := fun {a} h => by
    rcases mem h with rfl | rfl | rfl | h
    · exact hs0
    · exact hp0
    · exact hd0
    · exact Q.f a h
  refine ⟨R2, noMo_pl R2, stp_inst (m1 := memoF (EvOf H0) C pf K) (m2 := plainAt C) st2, ⟨⟨?_, fun x hx => ?_, hl, fun a ha ⟨φ, he⟩ => ?_⟩, fun e he => ?_, fun a ⟨φ, he⟩ => ⟨φ, ?_⟩⟩, fun a ha => ?_, fun a ha => ?_, ?_, fun a ha _ o ho => ?_⟩
  · show (pf :: r0 :: p :: d :: F.flatMap fun x => [x.r, x.o, x.d]).Nodup
    obtain ⟨q1, q2⟩ := List.nodup_cons.mp Q.nd
    have np' := np
    have ndr' := ndr
    have nfr' := nfr
    unfold RAd at np' ndr' nfr'
    simp only [List.mem_cons, not_or] at np' ndr' nfr'
    simp only [List.nodup_cons, List.mem_cons, not_or]
    exact ⟨⟨nfr'.1, fp, fdd, nfr'.2⟩, ⟨Ne.symm np'.1, Ne.symm ndr'.1, q1⟩, ⟨pd, np'.2⟩, ndr'.2, q2⟩
  · rcases List.mem_cons.mp hx with rfl | hx
    · exact hdp
    · exact (Q.rows x hx).2.2.2
  · rw [new ha] at he; cases he
  · rcases op_mem he with rfl | ⟨x, hx, h⟩
    · exact upd_same
    · rcases List.mem_cons.mp hx with rfl | hx
      · rcases h with rfl | rfl | rfl
        · exact old Q.hr
        · exact old k2
        · exact old hd
      · obtain ⟨a, b, e, f⟩ := Q.rows x hx
        rcases h with rfl | rfl | rfl
        · exact old a
        · exact old b
        · exact old e
  · obtain ⟨keep, _⟩ := st1
    exact (keep a _ he (notOwn R0 he)).1 fun z => z.2
  · rcases mem ha with rfl | rfl | rfl | h
    · exact cut_none (gfree sub hpf)
    · exact cut_none k3
    · exact cut_same
    · exact cut_none (Q.g a h)
  · rcases mem ha with rfl | rfl | rfl | h
    · exact fun z => Q.R.freeOwn hpf (own_drop z).1
    · exact nown
    · exact fun z => nd' (own_drop z).1
    · exact fun z => Q.n a h (own_drop z).1
  · have fd' := Q.fd.cut hown
    refine ⟨by rw [List.length_cons, List.length_cons, fd'.1], fun k x y h1 h2 => ?_⟩
    cases k with
    | zero => cases h1; cases h2; exact ⟨k4.cut hown, rc.cut hown⟩
    | succ k => exact fd'.2 k x y (by simpa using h1) (by simpa using h2)
  · rw [new ha] at ho; cases ho
/-- the end: the family is out of sight -/
theorem memoF_out (R0 : @Rel (plainAt C) K G0 H0 σ0 δ0) (R5 : @Rel (memoF (EvOf H0) C pf K) K G H σ δ) (st5 : @Stp (memoF (EvOf H0) C pf K) σ0 δ0 G0 H0 σ δ G H) (nm : noMoK (clr f j δ)) : @Rel (plainAt C) K G H σ (clr f j δ) ∧ @Stp (plainAt C) σ0 δ0 G0 H0 σ (clr f j δ) G H := by
  have ow : ∀ {a : Addr}, Own σ (clr f j δ) a → Own σ δ a := fun {a} ⟨i, t, ds, h1, h2⟩ => by
    rcases clr_get h2 with z | ⟨_, _, z⟩
    · cases z
    · exact ⟨i, t, ds, h1, z⟩
  have sub : Same G H := by obtain ⟨a, _⟩ := R5; exact a
  refine ⟨rel_to (m1 := memoF (EvOf H0) C pf K) (m2 := plainAt C) rfl R5 sub (fun _ _ => rfl) nm (by unfold clr; simp) fun k s hs => (clr_get hs).imp id fun z => z.2.2, ?_⟩
  obtain ⟨keep, dom, same, grow⟩ := st5
  refine @Stp.mk (plainAt C) _ _ _ _ _ _ _ _ (fun a o ha hn => ⟨fun _ => (keep a o ha hn).1 fun ⟨⟨φ, z1⟩, z2⟩ => z2 ⟨φ, by rw [ha, z1]⟩, fun z => (keep a o ha hn).2 (ow z)⟩) dom same grow
end
end CK
namespace CK
open PySem PySem.Spec PyProof.Rows L2
def oLi : Option Sl → Option (List PyData)
  | some (.bx (.o fs) ds) => if fs = liFs then some ds else none
  | _ => none
theorem oLi_eq {o : Option Sl} {ds : List PyData} (h : oLi o = some ds) : o = some (.bx (.o liFs) ds) := by
  unfold oLi at h
  split at h
  · obtain ⟨e, h⟩ := iteS h
    cases h
    rw [e]
  · cases h
def frk (fn : Fn) (ds : List PyData) : Option (List PyData × List PyData) := (fn [.bx (.o liFs) ds]).bind newO
theorem frk_eq {fn : Fn} {ds : List PyData} {x : List PyData × List PyData} (h : frk fn ds = some x) : fn [.bx (.o liFs) ds] = some (.bx (.o liFs) x.1, [.bx (.o liFs) x.2]) := by
  obtain ⟨z, e, h⟩ := bind_some_of h
  rw [e, newO_eq h]
def plFl : Fl → Bool
  | .rt (.im _) => true
  | .rt _ => false
  | _ => true
def famO (f j : Nat) (z : Fl × List Sl) : Option (Fl × List Sl) := if noMoB (clr f j z.2) = true ∧ plFl z.1 = true then some (z.1, clr f j z.2) else none
def sFam (i c f j : Nat) (fn : Fn) (B : Sm) : Sm := fun δ => (oLi δ[i]?).bind fun ds => (dRowS.owQs δ[c]?).bind fun cs => (frk fn ds).bind fun x1 => (frk fn x1.2).bind fun x2 => (frk fn x2.2).bind fun xb => (frk fn xb.1).bind fun x3 => if i ≠ c ∧ f < δ.length then
  (B (((δ.set c (.im (.list cs))).set i .no).set f (.mo (famI [(xb.2, .list cs), (x1.1, .list cs), (x2.1, .list cs), (x3.1, .list cs)])))).bind (famO f j) else none
def tFork (P : Program) (w : World) (C : Addr) (K : PySem.W.Frag) (m : Str) (fn : Fn) (t : TE) : TE := tEnd P w (tMeth C m (spFr C K 1 fn) [] E0 t tNil)
def tRow (t : TE) (c : Nat) : TE := tLst (tCons t (tCons (tVar c) tNil))
def tRows (P : Program) (w : World) (C : Addr) (K : PySem.W.Frag) (m : Str) (fn : Fn) (i c : Nat) : TE := tLst (tCons (tRow (tVar i) c) (tCons (tRow (tFork P w C K m fn (tVar i)) c) (tCons (tRow (tFork P w C K m fn (tVar i)) c) (tCons (tRow (tFork P w C K m fn (tFork P w C K m fn (tVar i))) c) tNil))))
section
variable {P : Program} {w : World} {C : Addr} {K : PySem.W.Frag} {σ0 σ σ' : SS} {δ0 δ δ' : List Sl} {G0 H0 G H G' H' : Hp} {r0 p d : Addr} {c : V} {F : List FRow} {L : LD} {a : List PyData} {cd : PyData} {o r1 : Addr}
theorem Prt.fork (R0 : @Rel (plainAt C) K G0 H0 σ0 δ0) (Q : Prt C K σ0 δ0 G0 H0 r0 p c F L G H σ δ) (R1 : @Rel (plainAt C) K G' H' σ' δ') (st1 : @Stp (plainAt C) σ δ G H σ' δ' G' H') (N : NewM C K G H G' H' σ' δ' o a) (hr1 : H' r1 = none) (rc : Rp K G c cd) :
    ∃ G3 d ws, Prt C K σ0 δ0 G0 H0 r0 p c (F ++ [⟨r1, o, d, ws, c⟩]) (L ++ [(a, cd)]) G3 (upd H' r1 (.lst [.ref o, c])) σ' δ' ∧ Rp K G3 c cd := by
  obtain ⟨d, ws, a1, a2, a3, a4, a5, a6, a7, a8⟩ := N
  have Q1 := Q.step R1 st1
  have dom0 : ∀ {a : Addr}, H a = none → H0 a = none := fun {a} h => by
    obtain ⟨_, dom, _, _⟩ := Q.st
    exact dom _ h
  have sub0 : Same G0 H0 := by obtain ⟨x, _⟩ := R0; exact x
  have sub1 : Same G' H' := by obtain ⟨x, _⟩ := R1; exact x
  have out : ∀ {a : Addr}, H a = none → a ∉ RAd r0 F := fun {a} h z => by
    obtain ⟨u, hu, _⟩ := Q.at z
    rw [h] at hu; cases hu
  have same : Same G G' := by obtain ⟨_, _, x, _⟩ := st1; exact x
  have hown : ∀ u, G' d = some u → u = .own o := fun u hu => by
    have := sub1 _ _ hu
    rw [a3] at this
    cases this; rfl
  exact ⟨CK.cut G' d, d, ws, Q1.add a1 a2 a3 hr1 a6 a7 a8 (rc.same same) (dom0 a4) (dom0 a5) (out a4) (out a5) (gfree sub0 (dom0 a5)), (rc.same same).cut hown⟩
end
section
variable {P0 : Program} {w : World} {C : Addr} {K : PySem.W.Frag} {σ0 σ : SS} {δ0 δ δ' : List Sl} {G0 H0 G H : Hp} {p d : Addr} {i c f j : Nat} {fn : Fn} {B : Sm} {D : Ends} {P : List Nat} {fl : Fl} {m : Str}
theorem fam_go {h : Heap} (ok : HOk P0 w H h) (hc : liFs.contains m = false) (hPf : P.contains f = false) (R0 : @Rel (plainAt C) K G0 H0 σ0 δ0) (R : @Rel (plainAt C) K G H σ δ) (st : @Stp (plainAt C) σ0 δ0 G0 H0 σ δ G H) (pin : Pin P σ0 σ)
    (hσ : σ[i]? = some (some (.ref p))) (hdp : d + 1 = p) (hp0 : H0 p = none) (hd0 : H0 d = none) (e : sFam i c f j fn B δ = some (fl, δ'))
    (q : ∀ (σ' : SS) (G' H' : Hp), @Rel (plainAt C) K G' H' σ' δ' → @Stp (plainAt C) σ0 δ0 G0 H0 σ' δ' G' H' → Pin P σ0 σ' → @endOf (plainAt C) K G' H' H0 σ0 δ0 σ' δ' D fl) :
    tSeq (tAsg (tRows P0 w C K m fn i c) (gName f)) (tSw P0 w (fun D σ H => ∃ Ev pf, @tS (memoF Ev C pf K) K P B D σ H)) D σ H := by
  letI mm : Memo := plainAt C
  obtain ⟨ds, e0, e⟩ := bind_some_of e
  obtain ⟨cs, ec, e⟩ := bind_some_of e
  obtain ⟨x1, e1, e⟩ := bind_some_of e
  obtain ⟨x2, e2, e⟩ := bind_some_of e
  obtain ⟨xb, eb, e⟩ := bind_some_of e
  obtain ⟨x3, e3, e⟩ := bind_some_of e
  obtain ⟨⟨hic, hfl⟩, e⟩ := iteS e
  rw [← R.len] at hfl
  obtain ⟨⟨flB, δB⟩, eB, e⟩ := bind_some_of e
  obtain ⟨⟨nmb, hpl⟩, e⟩ := iteS (show (if noMoB (clr f j δB) = true ∧ plFl flB = true then some (flB, clr f j δB) else none) = some (fl, δ') from e)
  cases e
  have hi := oLi_eq e0
  have ec : δ[c]? = some (.bx .l cs) := by
    unfold dRowS.owQs at ec
    split at ec
    · cases ec; assumption
    · cases ec
  have e1 := frk_eq e1
  have e2 := frk_eq e2
  have eb := frk_eq eb
  have e3 := frk_eq e3
  obtain ⟨p', us, k1, ⟨dx, k2⟩, k3, k4⟩ := R.bx hi
  rw [hσ] at k1
  cases k1
  have hdx : dx.1 = d := Nat.succ.inj (dx.2.trans hdp.symm)
  rw [hdx] at k2
  obtain ⟨hd, _⟩ : ObjOk P0 w H h p (.ins C d (liFs.zip us)) := ok _ _ k2
  obtain ⟨l, wl, hcσ, hl, R1, s1, rp, st1⟩ := R.freeze ec
  have hil : i < δ.length := (List.getElem?_eq_some_iff.mp hi).1
  have hi1 : (δ.set c (.im (.list cs)))[i]? = some (.bx (.o liFs) ds) := by rw [List.getElem?_set_ne (Ne.symm hic)]; exact hi
  have L2' : 2 ≤ sizeLine := by rw [sizeLine_eq]; omega
  have L4' : 4 ≤ sizeLine := by rw [sizeLine_eq]; omega
  have hil1 : ∀ {s : Sl}, ((δ.set c (.im (.list cs))).set i s)[i]? = some s := fun {s} => List.getElem?_set_self (by rw [List.length_set]; exact hil)
  refine ⟨.ref p, hσ, .ref l, hcσ, L2', fun r0 hr0 => ?_⟩
  have Q0 : Prt C K σ0 δ0 G0 H0 r0 p (.ref l) [] [] (upd G l (.lst wl)) (upd H r0 (.lst [.ref p, .ref l])) σ (δ.set c (.im (.list cs))) := by
    have sub1 : Same (upd G l (.lst wl)) H := R1.sub
    have m1 : ∀ {a : Addr}, a ∈ RAd r0 [] → a = r0 := fun {a} h => by simpa [RAd] using h
    exact ⟨R1.new hr0, (st.trans st1).trans (Stp.new hr0), upd_same, ⟨d, hdp, by rw [upd_ne (fun z => by rw [z, hr0] at hd; cases hd)]; exact hd⟩, fun x hx => (nomatch hx), by simp [RAd], fun a ha => by rw [m1 ha]; exact gfree sub1 hr0, fun a ha => by rw [m1 ha]; exact R1.freeOwn hr0, fun a ha => by
      rw [m1 ha]
      obtain ⟨_, dom, _, _⟩ := st
      exact dom _ hr0, rfl, fun k x y h1 h2 => (nomatch h1)⟩
  refine fork_at Q0.R hi1 e1 hc fun o1 Ga Ha Ra sta N1 => ⟨.ref l, hcσ, L2', fun r1 hr1 => ?_⟩
  obtain ⟨Gb, d1, ws1, Q1, rp1⟩ := Q0.fork R0 Ra sta N1 hr1 rp
  refine fork_at Q1.R hil1 e2 hc fun o2 Gc Hc Rc stc N2 => ⟨.ref l, hcσ, L2', fun r2 hr2 => ?_⟩
  obtain ⟨Gd, d2, ws2, Q2, rp2⟩ := Q1.fork R0 Rc stc N2 hr2 rp1
  rw [List.set_set] at Q2
  refine fork_at (Q := fun v H1 => ∃ a dx fs, v = .ref a ∧ H1 a = some (.ins C dx fs) ∧ fs.lookup m = none ∧ _) Q2.R hil1 eb hc fun ob Ge He Re ste Nb => ?_
  have Nb' := Nb
  obtain ⟨db, wb, b1, b2, _⟩ := Nb'
  refine ⟨ob, db, _, rfl, b1, zip_none hc, ?_⟩
  refine fork_new (P := P0) (w := w) Re ste Nb e3 fun o3 Gf Hf Rf stf N3 => ⟨.ref l, hcσ, L2', fun r3 hr3 => ?_⟩
  have N3' : NewM C K Gd (upd Hc r2 (.lst [.ref o2, .ref l])) Gf Hf σ ((δ.set c (.im (.list cs))).set i (.bx (.o liFs) x2.2) |>.set i (.bx (.o liFs) xb.2)) o3 x3.1 := by
    obtain ⟨d3, ws3, c1, c2, c3, c4, c5, c6, c7, c8⟩ := N3
    obtain ⟨_, dom, _, _⟩ := ste
    exact ⟨d3, ws3, c1, c2, c3, dom _ c4, dom _ c5, c6, c7, c8⟩
  obtain ⟨Gg, d3, ws3, Q3, rp3⟩ := Q2.fork R0 Rf stf N3' hr3 rp2
  rw [List.set_set] at Q3
  refine ⟨L4', fun pf hpf => ?_⟩
  obtain ⟨dd, hdd, hdo⟩ := Q3.hd
  have hdd' : dd = d := Nat.succ.inj (hdd.trans hdp.symm)
  rw [hdd'] at hdo
  obtain ⟨F', hF', O⟩ := Q3.fam R0 (i := i) (ds := xb.2) (d := d) (pf := pf) hil1 hσ hdp hdo hp0 hd0 rp3 hpf (by show 3 + 1 ≤ sizeLine; exact L4')
  have hset : (((δ.set c (.im (.list cs))).set i (.bx (.o liFs) xb.2)).set i .no) = (δ.set c (.im (.list cs))).set i .no := List.set_set ..
  rw [hset] at O
  have OR := O.R
  have RS : @Rel (plainAt C) K (CK.cut Gg d) _ (σ.set f (some (.ref pf))) (((δ.set c (.im (.list cs))).set i .no).set f .no) := OR.set (i := f) (v := .ref pf) (s := .no) trivial fun _ _ _ z => nomatch z
  have O2 := O.step RS (noMo_pl RS) (Stp.setR OR Stp.refl fun _ _ _ z => nomatch z)
  obtain ⟨RC, stC⟩ := O2.closeF (f := f) (List.getElem?_set_self hfl)
  have hset2 : ((((δ.set c (.im (.list cs))).set i .no).set f .no).set f (.mo (famI ((xb.2, .list cs) :: ([] ++ [(x1.1, .list cs)] ++ [(x2.1, .list cs)] ++ [(x3.1, .list cs)]))))) = ((δ.set c (.im (.list cs))).set i .no).set f (.mo (famI [(xb.2, .list cs), (x1.1, .list cs), (x2.1, .list cs), (x3.1, .list cs)])) := List.set_set ..
  rw [hset2] at RC stC
  refine ⟨_, O2.O.swap, EvOf H0, pf, _, _, fl, δB, RC, eB, fun σ5 G5 H5 R5 st5 p5 => ?_⟩
  obtain ⟨R6, st6⟩ := memoF_out (f := f) (j := j) R0 R5 (@Stp.trans (memoF (EvOf H0) C pf K) _ _ _ _ _ _ _ _ _ _ _ _ stC st5) (noMoB_of nmb)
  have qq := q σ5 G5 H5 R6 st6 ((pin.trans (Pin.set hPf)).trans p5)
  cases fl with
  | nx => exact ⟨H5, Swap.refl, qq⟩
  | bk => exact ⟨H5, Swap.refl, qq⟩
  | ct => exact ⟨H5, Swap.refl, qq⟩
  | rt r =>
    cases r with
    | im dd => exact fun v rv => ⟨H5, Swap.refl, qq v rv⟩
    | _ => cases hpl
end
end CK
namespace CK
open PySem PySem.Spec PyProof.Rows L2
def sNewF (i c f j : Nat) (fnI : Fn) (as : List Ag) (fn : Fn) (Mid B : Sm) : Sm := fun δ => (dMake fnI as δ).bind fun x => (oLi (some x.1)).bind fun ds => (Mid ((x.2.set i (.bx (.o liFs) ds)).set c (.bx .l []))).bind fun y => match y.1 with
  | .nx => sFam i c f j fn B y.2
  | .rt r => if i ≠ c then some (.rt r, y.2) else none
  | _ => none
section
variable {P0 : Program} {w : World} {X : Cx} {C : Addr} {σ : SS} {H : Hp} {i c f j n : Nat} {fn fnI : Fn} {as : List Ag} {S2 S3 B : Sm} {D : Ends} {P : List Nat} {m : Str}
theorem span_go (hn : as.length + 1 = n) (hc : liFs.contains m = false) (hic : i ≠ c) (hPi : P.contains i = false) (hPc : P.contains c = false) (hPf : P.contains f = false) (h : @tS (plainAt C) X.K P (sNewF i c f j fnI as fn (sSeq S2 S3) B) D σ H) :
    tSeq (tPar i c (tCons (tMake C (@spD (plainAt C) X.K n fnI) [] E0 (@tAg (plainAt C) X.K as)) (tCons (tLst tNil) tNil)))
      (tSeq (@tS (plainAt C) X.K (i :: P) S2) (tSeq (@tS (plainAt C) X.K (i :: P) S3) (tHokS P0 w (tSeq (tAsg (tRows P0 w C X.K m fn i c) (gName f)) (tSw P0 w (fun D σ H => ∃ Ev pf, @tS (memoF Ev C pf X.K) X.K P B D σ H)))))) D σ H := by
  letI mm : Memo := plainAt C
  obtain ⟨G, δ, fl, δ', R, e, q⟩ := h
  obtain ⟨⟨r, δa⟩, ea, e⟩ := bind_some_of e
  obtain ⟨ds, eo, e⟩ := bind_some_of e
  obtain ⟨⟨f1, δm⟩, em, e⟩ := bind_some_of e
  have hr := Option.some.inj (oLi_eq eo)
  have hr : r = .bx (.o liFs) ds := hr
  subst hr
  have L0 : 0 ≤ sizeLine := by rw [sizeLine_eq]; omega
  have L2' : 2 ≤ sizeLine := by rw [sizeLine_eq]; omega
  unfold tSeq tPar tCons
  refine make_fresh (C := C) (make_go (X := X) hn ⟨G, δ, .bx (.o liFs) ds, δa, R, ea, fun v G1 H1 R1 st1 rv fr => ⟨L0, fun l hl => ?_⟩⟩)
  obtain ⟨p, ws, rfl, ⟨dx, hb⟩, gp, np, hp0, rws⟩ := rv
  obtain ⟨d, hdp, hd0⟩ := fr p rfl
  refine ⟨.ref p, .ref l, rfl, ?_⟩
  have R3 := R1.new (o := .lst []) hl
  have sub1 : Same G1 H1 := R1.sub
  have hbn : H1 p ≠ none := by rw [hb]; exact fun z => nomatch z
  have hlp : p ≠ l := fun z => hbn (by rw [z]; exact hl)
  have b3 : upd H1 l (.lst []) p = some (.ins C dx.1 (liFs.zip ws)) := by rw [upd_ne hlp]; exact hb
  have l3 : upd H1 l (.lst []) l = some (.lst []) := upd_same
  have A := R3.set (i := i) (v := .ref p) (s := .bx (.o liFs) ds) ⟨p, ws, rfl, ⟨dx, b3⟩, gp, rws⟩ fun p' t' ds' e1 e2 => by cases e2; exact np
  have Bb := A.set (i := c) (v := .ref l) (s := .bx .l []) ⟨l, [], rfl, l3, gfree sub1 hl, .nil⟩ fun p' t' ds' e1 e2 z => by
    cases e2
    rcases own_set R3.len z with z | ⟨z, _⟩
    · exact R1.freeOwn hl z
    · cases z; exact hlp rfl
  have hl0 : H l = none := by
    obtain ⟨_, dom, _, _⟩ := st1
    exact dom _ hl
  have stB := Stp.setR (i := c) (v := .ref l) (r := .bx .l []) A (Stp.setR (i := i) (v := .ref p) (r := .bx (.o liFs) ds) R3 (st1.trans (Stp.new (o := .lst []) hl)) fun p' t' ds' e1 e2 => by cases e2; exact hp0) fun p' t' ds' e1 e2 => by cases e2; exact hl0
  have pinB : Pin P σ ((σ.set i (some (.ref p))).set c (some (.ref l))) := (Pin.set hPi).trans (Pin.set hPc)
  refine seq_go (D := { D with nx := tHokS P0 w (tSeq (tAsg (tRows P0 w C X.K m fn i c) (gName f)) (tSw P0 w (fun D σ H => ∃ Ev pf, @tS (memoF Ev C pf X.K) X.K P B D σ H))) D }) ⟨G1, _, f1, δm, Bb, em, fun σ2 G2 H2 R4 st4 pin4 => ?_⟩
  have pin2 : Pin P σ σ2 := pinB.trans fun k hk => pin4 k (List.mem_cons_of_mem _ hk)
  cases f1 with
  | nx =>
    intro hh ok
    have e : sFam i c f j fn B δm = some (fl, δ') := e
    obtain ⟨ds2, e5, _⟩ := bind_some_of e
    obtain ⟨p2, us, k1, _⟩ := R4.bx (oLi_eq e5)
    have hp2 := pin4 i List.mem_cons_self
    rw [k1, List.getElem?_set_ne (Ne.symm hic), List.getElem?_set] at hp2
    rw [if_pos rfl] at hp2
    split at hp2
    · cases hp2
      exact fam_go ok hc hPf R R4 (stB.trans st4) pin2 k1 hdp hp0 hd0 e q
    · cases hp2
  | rt r =>
    have e : (if i ≠ c then some (Fl.rt r, δm) else none) = some (fl, δ') := e
    obtain ⟨_, e⟩ := iteS e
    cases e
    exact endOf.ahead stB (q σ2 G2 H2 R4 (stB.trans st4) pin2)
  | bk => cases e
  | ct => cases e
end
section
variable {X : Cx} {C : Addr} {i c f j n : Nat} {fn fnI : Fn} {as : List Ag} {S2 S3 B : Sm} {P : List Nat} {m : Str} {s1 s2 s3 s4 : Stmt} {rest : List Stmt}
theorem dss_newF (hn : as.length + 1 = n) (h1 : PS X s1 (tPar i c (tCons (tMake C (@spD (plainAt C) X.K n fnI) [] E0 (@tAg (plainAt C) X.K as)) (tCons (tLst tNil) tNil))))
    (h2 : @DS (plainAt C) X (i :: P) s2 S2) (h3 : @DS (plainAt C) X (i :: P) s3 S3) (h4 : PS X s4 (tAsg (tRows X.prog X.w C X.K m fn i c) (gName f))) (hB : ∀ Ev pf, @DSs (memoF Ev C pf X.K) X P rest B)
    (hc : liFs.contains m = false := by decide) (hic : i ≠ c := by decide) (hPi : P.contains i = false := by rfl) (hPc : P.contains c = false := by rfl) (hPf : P.contains f = false := by rfl) :
    @DSs (plainAt C) X P (s1 :: s2 :: s3 :: s4 :: rest) (sNewF i c f j fnI as fn (sSeq S2 S3) B) :=
  PSs.by (pss_cons h1 (pss_cons h2 (pss_cons h3 (pss_hok (pss_cons h4 (pss_swap (t := fun D σ H => ∃ Ev pf, @tS (memoF Ev C pf X.K) X.K P B D σ H) ⟨fun pins s σ H D I ⟨Ev, pf, q⟩ => (hB Ev pf).run pins s σ H D I q⟩)))))) fun D σ H h => span_go hn hc hic hPi hPc hPf h
end
end CK
namespace CK
open PySem PySem.Spec PyProof.Rows L2
structure PEntF (C : Addr) (K : PySem.W.Frag) (m qual : Str) (st : Stmt) (ps : List Str) where
  f : Addr
  p : Addr
  fd : FuncData
  fn : Fun K m qual st f fd
  pr : PropOf K C m p f
  bd : Binds K fd ps []
theorem dMake_bx {fn : Fn} {as : List Ag} {δ δ' : List Sl} {r : Sl} (h : dMake fn as δ = some (r, δ')) : ∃ t ds, r = Sl.bx t ds := by
  obtain ⟨_, h⟩ := iteS h
  obtain ⟨x, _, h⟩ := bind_some_of h
  obtain ⟨ss, _, h⟩ := bind_some_of h
  obtain ⟨y, _, h⟩ := bind_some_of h
  split at h
  · cases h; exact ⟨_, _, rfl⟩
  · cases h
theorem sFldD_nx {i : Nat} {f : Str} {F : Ex} {δ δ' : List Sl} {fl : Fl} (h : sFldD i f F δ = some (fl, δ')) : fl = .nx := by
  obtain ⟨x, _, h⟩ := bind_some_of h
  obtain ⟨d, _, h⟩ := bind_some_of h
  obtain ⟨o, _, h⟩ := bind_some_of h
  obtain ⟨_, h⟩ := iteS h
  obtain ⟨r, _, h⟩ := bind_some_of h
  cases h; rfl
theorem sFldD_bx {i : Nat} {f : Str} {F : Ex} {δ δ' : List Sl} (h : sFldD i f F δ = some (.nx, δ')) : ∃ t ds, δ'[i]? = some (Sl.bx t ds) := by
  obtain ⟨x, _, h⟩ := bind_some_of h
  obtain ⟨d, _, h⟩ := bind_some_of h
  obtain ⟨o, e, h⟩ := bind_some_of h
  obtain ⟨_, h⟩ := iteS h
  obtain ⟨r, _, h⟩ := bind_some_of h
  cases h
  exact ⟨_, _, List.getElem?_set_self (List.getElem?_eq_some_iff.mp (objS_at e)).1⟩
end CK
namespace CK
open PySem L2
noncomputable section
def m_stock : Fn := fnD [] 4
    (sSeq (sAsg (tgT (tgCons (tgN 1) (tgCons (tgN 2) (tgNil)))) (dTup [.one (dC (.int 0)), .one (dC (.int 27644437))]))
    (sSeq (sFor (itSeq (dSlF 0 none (some (dC (.int 63))))) (tgN 3)
    (sSeq (sIf (tOfE (dOp2 (blD geD) (.ex (dOp1 absD (.nm 3))) (.ex (dOp2 powD (.ex (dC (.int 10))) (.ex (dC (.int 18))))))) (sSet 1 (dOp2 addD (.ex (dOp2 mulD (.nm 1) (.ex (dOp2 powD (.ex (dC (.int 10))) (.ex (dC (.int 60))))))) (.ex (dOp2 modD (.ex (dOp1 intD (.ex (dOp1 absD (.nm 3))))) (.ex (dOp2 powD (.ex (dC (.int 10))) (.ex (dC (.int 60))))))))) sNext)
    (sSeq (sSet 4 (dOp2 addD (.ex (dOp2 addD (.ex (dOp2 mulD (.nm 2) (.ex (dC (.int 48271))))) (.ex (dOp2 modD (.ex (dOp1 intD (.nm 3))) (.ex (dC (.int 2305843009213693951))))))) (.ex (dC (.int 101)))))
    (sSet 2 (dOp2 modD (.ex (dOp1 intD (.nm 4))) (.ex (dC (.int 170141183460469231731687303715884105727))))))))
    (sRet (dLst [.one (dN 1), .one (dN 2), .one (dC (.int 0))]))))
def m_is_integer : Fn := fnD [] 0
    (sRet (dAnd (dOp1 (isiD "int") (.nm 0)) (dNot (dOp1 (isiD "bool") (.nm 0)))))
def m_is_between : Fn := fnD [] 0
    (sRet (dAnd (dCall m_is_integer [.ex (dN 0)]) (dCh (fun i j => decide (i ≤ j)) (fun i j => decide (i ≤ j)) (dN 1) (dN 0) (dN 2))))
def m_machine_fault : Fn := fnD [] 3
    (sSeq (sIf (tOrD (tNotD (tOfE (dOp1 (isiD "tuple") (.nm 0)))) (tOfE (dOp2 (blD neD) (.ex (dOp1 lenD (.nm 0))) (.ex (dC (.int 3)))))) (sRet (dTup [.one (dC .none)])) sNext)
    (sSeq (sAsg (tgT (tgCons (tgN 1) (tgCons (tgN 2) (tgCons (tgN 3) (tgNil))))) (dN 0))
    (sSeq (sIf (tNotD (tOfE (dCall m_is_between [.ex (dN 1), .ex (dC (.int 1)), .ex (dC (.int 40))]))) (sRet (dTup [.one (dC (.int 0))])) sNext)
    (sSeq (sIf (tNotD (tOfE (dCall m_is_between [.ex (dN 2), .ex (dC (.int 1)), .ex (dN 1)]))) (sRet (dTup [.one (dC (.int 1))])) sNext)
    (sRet (dIfE (tOfE (dCall m_is_between [.ex (dN 3), .ex (dC (.int 0)), .ex (dN 1)])) (dTup []) (dTup [.one (dC (.int 2))])))))))
def m_require_machine : Fn := fnD [] 1
    (sSeq (sSet 1 (dCall m_machine_fault [.ex (dN 0)]))
    (sIf (tOfE (dOp2 (blD neD) (.nm 1) (.ex (dTup [])))) sStuck sNext))
def m_o_init : Fn := fnD [0] 0
    (sSeq (sExpr (dCall m_require_machine [.ex (dN 1)]))
    (sSeq (sFldD 0 "kept_machine" (dN 1))
    (sFldD 0 "kept_calls" (dLst []))))
def m_o_fork : Fn := fnD [0] 1
    (sSeq (sSet 1 (dMake m_o_init [.ex (dFld 0 "kept_machine")]))
    (sSeq (sFldD 1 "kept_calls" (dOp1 listD (.ex (dFld 0 "kept_calls"))))
    (sRetV 1)))
def m_o_log : Fn := fnD [0] 1
    (sRet (dLc' 2 (itSeq (dFld 0 "kept_calls")) (tgN 1) tTrue (dOp2 ixD (.nm 1) (.ex (dC (.int 0)))) [1]))
def m_o_eq : Fn := fnD [0, 1] 0
    (sSeq (sIf (tNotD (tOfE (dIsG 1))) (sRet (dC (.bool false))) sNext)
    (sRet (dOp2 (blD eqD) (.ex (dTup [.one (dFld 0 "kept_machine"), .one (dProp m_o_log 0)])) (.ex (dTup [.one (dFld 1 "kept_machine"), .one (dProp m_o_log 1)])))))
def m_draw : Fn := fnD [0] 2
    (sSeq (sIf (tOfE (dOp2 (blD gtD) (.ex (dOp2 ixD (.nm 0) (.ex (dC (.int 0))))) (.ex (dC (.int 0))))) (sSeq (sSet 2 (dOp2 modD (.ex (dOp1 intD (.ex (dOp2 ixD (.nm 0) (.ex (dC (.int 0))))))) (.nm 1)))
    (sSeq (sSto 0 (dC (.int 0)) (dOp2 fdivD (.ex (dOp2 ixD (.nm 0) (.ex (dC (.int 0))))) (.nm 1)))
    (sRetV 2))) sNext)
    (sSeq (sSto 0 (dC (.int 2)) (dOp2 addD (.ex (dOp2 ixD (.nm 0) (.ex (dC (.int 2))))) (.ex (dC (.int 1)))))
    (sSeq (sSet 3 (dOp2 addD (.ex (dOp2 ixD (.nm 0) (.ex (dC (.int 1))))) (.ex (dOp2 mulD (.ex (dC (.int 1000000000000000003))) (.ex (dOp2 ixD (.nm 0) (.ex (dC (.int 2)))))))))
    (sSeq (sSet 3 (dOp2 addD (.ex (dOp2 modD (.ex (dOp1 intD (.ex (dOp2 powD (.nm 3) (.ex (dC (.int 2))))))) (.ex (dC (.int 170141183460469231731687303715884105727))))) (.ex (dOp2 mulD (.ex (dC (.int 999999000001))) (.ex (dOp2 ixD (.nm 0) (.ex (dC (.int 2)))))))))
    (sSeq (sSet 3 (dOp2 modD (.ex (dOp1 intD (.ex (dOp2 powD (.nm 3) (.ex (dC (.int 3))))))) (.ex (dC (.int 170141183460469231731687303715884105727)))))
    (sRet (dOp2 modD (.ex (dOp1 intD (.ex (dOp2 fdivD (.nm 3) (.ex (dC (.int 1048576))))))) (.nm 1))))))))
def m_o_len : Fn := fnD [0] 0
    (sRet (dOp1 lenD (.ex (dFld 0 "kept_calls"))))
def m_tens : Fn := fnD [] 0
    (sRet (dOp1 intD (.ex (dOp2 addD (.ex (dC (.str "1"))) (.ex (dOp2 mulD (.ex (dC (.str "0"))) (.nm 0)))))))
def m_figure : Fn := fnD [0] 2
    (sSeq (sSet 2 (dCall m_tens [.ex (dOp2 ixD (.nm 1) (.ex (dC (.int 1))))]))
    (sSeq (sSet 3 (dLst [.one (dCall m_draw [.io 0, .ex (dN 2)]), .one (dOp2 subD (.nm 2) (.ex (dC (.int 1)))), .one (dCall m_draw [.io 0, .ex (dC (.int 10))]), .one (dCall m_tens [.ex (dCall m_draw [.io 0, .ex (dOp2 ixD (.nm 1) (.ex (dC (.int 1))))])])]))
    (sRet (dOp2 modD (.ex (dOp1 intD (.ex (dOp2 ixD (.nm 3) (.ex (dCall m_draw [.io 0, .ex (dC (.int 4))])))))) (.nm 2)))))
def m_next : Fn := fnD [0] 1
    (sSeq (sSet 3 (dCall m_draw [.io 0, .ex (dC (.int 10))]))
    (sSeq (sIf (tOfE (dOp2 (blD ltD) (.nm 3) (.ex (dC (.int 2))))) (sRet (dTup [.one (dC (.str "set")), .one (dCall m_figure [.io 0, .ex (dN 1)])])) sNext)
    (sSeq (sIf (tOfE (dOp2 (blD ltD) (.nm 3) (.ex (dC (.int 4))))) (sRet (dTup [.one (dC (.str "shift")), .one (dCall m_draw [.io 0, .ex (dOp2 addD (.ex (dOp2 subD (.ex (dOp2 ixD (.nm 1) (.ex (dC (.int 0))))) (.ex (dOp2 ixD (.nm 1) (.ex (dC (.int 1))))))) (.ex (dC (.int 1))))])])) sNext)
    (sSeq (sIf (tOfE (dOp2 (blD eqD) (.nm 3) (.ex (dC (.int 4))))) (sRet (dOp2 ixD (.ex (dLst [.one (dTup [.one (dC (.str "clear register"))]), .one (dTup [.one (dC (.str "clear counter"))])])) (.ex (dCall m_draw [.io 0, .ex (dC (.int 2))])))) sNext)
    (sRet (dTup [.one (dC (.str "turn")), .one (dOp2 mulD (.ex (dOp2 addD (.ex (dC (.int 1))) (.ex (dCall m_draw [.io 0, .ex (dOp2 ixD (.ex (dLst [.one (dC (.int 1)), .one (dC (.int 9)), .one (dN 2)])) (.ex (dCall m_draw [.io 0, .ex (dC (.int 3))])))])))) (.ex (dOp2 ixD (.ex (dLst [.one (dC (.int 1)), .one (dC (.int 1)), .one (dOp1 negD (.ex (dC (.int 1))))])) (.ex (dCall m_draw [.io 0, .ex (dC (.int 3))])))))]))))))
def m_places_of : Fn := fnD [] 0
    (sRet (dOp2 addD (.ex (dOp2 subD (.ex (dOp2 ixD (.nm 0) (.ex (dC (.int 0))))) (.ex (dOp2 ixD (.nm 0) (.ex (dC (.int 1))))))) (.ex (dC (.int 1)))))
def m_o_state_now : Fn := fnD [0] 0
    (sSeq (sIf (tOfE (dOp2 (blD eqD) (.ex (dFld 0 "kept_calls")) (.ex (dLst [])))) (sRet (dTup [.one (dC (.int 0)), .one (dOp2 mulD (.ex (dLst [.one (dC (.int 0))])) (.ex (dCall m_places_of [.ex (dFld 0 "kept_machine")]))), .one (dC (.int 0)), .one (dC (.int 0)), .one (dC (.int 0))])) sNext)
    (sRet (dSl (.ex (dOp2 ixD (.ex (dFld 0 "kept_calls")) (.ex (dOp1 negD (.ex (dC (.int 1))))))) (some (dC (.int 1))) none)))
def m_o_keep : Fn := fnD [0] 0
    (sFldD 0 "kept_calls" (dLst [.star (dFld 0 "kept_calls"), .one (dTup [.one (dN 1), .star (dN 2)])]))
def m_o_clear_counter : Fn := fnD [0] 5
    (sSeq (sAsg (tgT (tgCons (tgN 1) (tgCons (tgN 2) (tgCons (tgN 3) (tgCons (tgN 4) (tgCons (tgN 5) (tgNil))))))) (dMeth "state_now" m_o_state_now 0 []))
    (sExpr (dMeth "keep" m_o_keep 0 [.ex (dTup [.one (dC (.str "clear counter"))]), .ex (dTup [.one (dN 1), .one (dOp2 mulD (.ex (dLst [.one (dC (.int 0))])) (.ex (dOp1 lenD (.nm 2)))), .one (dN 3), .one (dN 4), .one (dN 5)])])))
def m_ten_power : Fn := fnD [] 0
    (sRet (dOp1 intD (.ex (dOp2 addD (.ex (dC (.str "1"))) (.ex (dOp2 mulD (.ex (dC (.str "0"))) (.nm 0)))))))
def m_require_setting : Fn := fnD [] 0
    (sIf (tNotD (tOfE (dCall m_is_between [.ex (dN 1), .ex (dC (.int 0)), .ex (dOp2 subD (.ex (dCall m_ten_power [.ex (dOp2 ixD (.nm 0) (.ex (dC (.int 1))))])) (.ex (dC (.int 1))))]))) sStuck sNext)
def m_o_set_to : Fn := fnD [0] 5
    (sSeq (sExpr (dCall m_require_setting [.ex (dFld 0 "kept_machine"), .ex (dN 1)]))
    (sSeq (sAsg (tgT (tgCons (tgN 2) (tgCons (tgN 3) (tgCons (tgN 4) (tgCons (tgN 5) (tgCons (tgN 6) (tgNil))))))) (dMeth "state_now" m_o_state_now 0 []))
    (sExpr (dMeth "keep" m_o_keep 0 [.ex (dTup [.one (dC (.str "set")), .one (dN 1)]), .ex (dTup [.one (dN 2), .one (dN 3), .one (dN 1), .one (dN 5), .one (dN 6)])]))))
def m_require_place : Fn := fnD [] 0
    (sIf (tNotD (tOfE (dCall m_is_between [.ex (dN 1), .ex (dC (.int 0)), .ex (dOp2 subD (.ex (dCall m_places_of [.ex (dN 0)])) (.ex (dC (.int 1))))]))) sStuck sNext)
def m_o_shift_to : Fn := fnD [0] 5
    (sSeq (sExpr (dCall m_require_place [.ex (dFld 0 "kept_machine"), .ex (dN 1)]))
    (sSeq (sAsg (tgT (tgCons (tgN 2) (tgCons (tgN 3) (tgCons (tgN 4) (tgCons (tgN 5) (tgCons (tgN 6) (tgNil))))))) (dMeth "state_now" m_o_state_now 0 []))
    (sExpr (dMeth "keep" m_o_keep 0 [.ex (dTup [.one (dC (.str "shift")), .one (dN 1)]), .ex (dTup [.one (dN 2), .one (dN 3), .one (dN 4), .one (dN 1), .one (dN 6)])]))))
def m_edge_of : Fn := fnD [] 0
    (sRet (dOp2 min2D (.ex (dOp2 addD (.ex (dOp2 addD (.nm 1) (.ex (dOp2 ixD (.nm 0) (.ex (dC (.int 1))))))) (.ex (dOp2 ixD (.nm 0) (.ex (dC (.int 2))))))) (.ex (dOp2 ixD (.nm 0) (.ex (dC (.int 0)))))))
def m_o_turn : Fn := fnD [0] 9
    (sSeq (sIf (tOrD (tNotD (tOfE (dCall m_is_integer [.ex (dN 1)]))) (tOfE (dOp2 (blD eqD) (.nm 1) (.ex (dC (.int 0)))))) sStuck sNext)
    (sSeq (sAsg (tgT (tgCons (tgN 2) (tgCons (tgN 3) (tgCons (tgN 4) (tgCons (tgN 5) (tgCons (tgN 6) (tgNil))))))) (dMeth "state_now" m_o_state_now 0 []))
    (sSeq (sSet 7 (dCall m_ten_power [.ex (dCall m_edge_of [.ex (dFld 0 "kept_machine"), .ex (dN 5)])]))
    (sSeq (sSet 8 (dOp2 modD (.nm 2) (.nm 7)))
    (sSeq (sAsg (tgT (tgCons (tgN 9) (tgCons (tgN 10) (tgNil)))) (dOp2 divmodD (.ex (dOp2 addD (.nm 8) (.ex (dOp2 mulD (.ex (dOp2 mulD (.nm 1) (.nm 4))) (.ex (dCall m_ten_power [.ex (dN 5)])))))) (.nm 7)))
    (sSeq (sSet 3 (dLst [.star (dSl (.nm 3) none (some (dN 5))), .one (dOp2 modD (.ex (dOp2 addD (.ex (dOp2 ixD (.nm 3) (.nm 5))) (.nm 1))) (.ex (dC (.int 10)))), .star (dSl (.nm 3) (some (dOp2 addD (.nm 5) (.ex (dC (.int 1))))) none)]))
    (sExpr (dMeth "keep" m_o_keep 0 [.ex (dTup [.one (dC (.str "turn")), .one (dN 1)]), .ex (dTup [.one (dOp2 addD (.ex (dOp2 subD (.nm 2) (.nm 8))) (.nm 10)), .one (dN 3), .one (dN 4), .one (dN 5), .one (dOp2 addD (.nm 6) (.ex (dOp1 absD (.nm 9))))])]))))))))
def m_o_clear_register : Fn := fnD [0] 5
    (sSeq (sAsg (tgT (tgCons (tgN 1) (tgCons (tgN 2) (tgCons (tgN 3) (tgCons (tgN 4) (tgCons (tgN 5) (tgNil))))))) (dMeth "state_now" m_o_state_now 0 []))
    (sExpr (dMeth "keep" m_o_keep 0 [.ex (dTup [.one (dC (.str "clear register"))]), .ex (dTup [.one (dC (.int 0)), .one (dN 2), .one (dN 3), .one (dN 4), .one (dN 5)])])))
def m_call : Fn := fnD [0] 0
    (sSeq (sIf (tOfE (dOp2 (blD eqD) (.ex (dOp2 ixD (.nm 1) (.ex (dC (.int 0))))) (.ex (dC (.str "set"))))) (sRet (dOp2 (blD isD) (.ex (dMeth "set_to" m_o_set_to 0 [.ex (dOp2 ixD (.nm 1) (.ex (dC (.int 1))))])) (.ex (dC .none)))) sNext)
    (sSeq (sIf (tOfE (dOp2 (blD eqD) (.ex (dOp2 ixD (.nm 1) (.ex (dC (.int 0))))) (.ex (dC (.str "shift"))))) (sRet (dOp2 (blD isD) (.ex (dMeth "shift_to" m_o_shift_to 0 [.ex (dOp2 ixD (.nm 1) (.ex (dC (.int 1))))])) (.ex (dC .none)))) sNext)
    (sSeq (sIf (tOfE (dOp2 (blD eqD) (.ex (dOp2 ixD (.nm 1) (.ex (dC (.int 0))))) (.ex (dC (.str "turn"))))) (sRet (dOp2 (blD isD) (.ex (dMeth "turn" m_o_turn 0 [.ex (dOp2 ixD (.nm 1) (.ex (dC (.int 1))))])) (.ex (dC .none)))) sNext)
    (sSeq (sIf (tOfE (dOp2 (blD eqD) (.ex (dOp2 ixD (.nm 1) (.ex (dC (.int 0))))) (.ex (dC (.str "clear register"))))) (sRet (dOp2 (blD isD) (.ex (dMeth "clear_register" m_o_clear_register 0 [])) (.ex (dC .none)))) sNext)
    (sRet (dOp2 (blD isD) (.ex (dMeth "clear_counter" m_o_clear_counter 0 [])) (.ex (dC .none))))))))
def m_o_display : Fn := fnD [0] 0
    (sRet (dOp2 ixD (.ex (dMeth "state_now" m_o_state_now 0 [])) (.ex (dC (.int 0)))))
def m_o_counter : Fn := fnD [0] 0
    (sRet (dOp1 listD (.ex (dOp2 ixD (.ex (dMeth "state_now" m_o_state_now 0 [])) (.ex (dC (.int 1)))))))
def m_o_setting : Fn := fnD [0] 0
    (sRet (dOp2 ixD (.ex (dMeth "state_now" m_o_state_now 0 [])) (.ex (dC (.int 2)))))
def m_o_place : Fn := fnD [0] 0
    (sRet (dOp2 ixD (.ex (dMeth "state_now" m_o_state_now 0 [])) (.ex (dC (.int 3)))))
def m_o_bells : Fn := fnD [0] 0
    (sRet (dOp2 ixD (.ex (dMeth "state_now" m_o_state_now 0 [])) (.ex (dC (.int 4)))))
def m_told : Fn := fnD [0] 1
    (sSeq (sSet 1 (dLst [.one (dProp m_o_display 0), .one (dProp m_o_counter 0), .one (dProp m_o_setting 0), .one (dProp m_o_place 0), .one (dProp m_o_bells 0)]))
    (sRet (dOp1 reprD (.ex (dOp2 addD (.nm 1) (.ex (dLst [.one (dProp m_o_log 0), .one (dLenO m_o_len 0)])))))))
def m_edge : Fn := fnD [] 0
    (sRet (dOp2 min2D (.ex (dOp2 addD (.ex (dOp2 addD (.nm 1) (.ex (dOp2 ixD (.nm 0) (.ex (dC (.int 1))))))) (.ex (dOp2 ixD (.nm 0) (.ex (dC (.int 2))))))) (.ex (dOp2 ixD (.nm 0) (.ex (dC (.int 0)))))))
def m_turned : Fn := fnD [] 3
    (sSeq (sSet 5 (dCall m_tens [.ex (dCall m_edge [.ex (dN 0), .ex (dN 3)])]))
    (sSeq (sSet 6 (dOp2 modD (.ex (dOp1 intD (.nm 1))) (.nm 5)))
    (sSeq (sSet 7 (dOp2 addD (.nm 6) (.ex (dOp2 mulD (.ex (dOp2 mulD (.nm 4) (.nm 2))) (.ex (dCall m_tens [.ex (dN 3)]))))))
    (sRet (dTup [.one (dOp2 addD (.ex (dOp2 subD (.nm 1) (.nm 6))) (.ex (dOp2 modD (.ex (dOp1 intD (.nm 7))) (.nm 5)))), .one (dOp1 absD (.ex (dOp2 fdivD (.nm 7) (.nm 5))))])))))
def m_state : Fn := fnD [] 7
    (sSeq (sAsg (tgT (tgCons (tgN 2) (tgCons (tgN 3) (tgCons (tgN 4) (tgCons (tgN 5) (tgNil)))))) (dTup [.one (dC (.int 0)), .one (dC (.int 0)), .one (dC (.int 0)), .one (dC (.int 0))]))
    (sSeq (sSet 6 (dOp2 mulD (.ex (dLst [.one (dC (.int 0))])) (.ex (dOp2 addD (.ex (dOp2 subD (.ex (dOp2 ixD (.nm 0) (.ex (dC (.int 0))))) (.ex (dOp2 ixD (.nm 0) (.ex (dC (.int 1))))))) (.ex (dC (.int 1)))))))
    (sSeq (sFor (itSeq (dN 1)) (tgN 7)
    (sIf (tOfE (dOp2 (blD eqD) (.ex (dOp2 ixD (.nm 7) (.ex (dC (.int 0))))) (.ex (dC (.str "set"))))) (sSet 3 (dOp2 ixD (.nm 7) (.ex (dC (.int 1))))) (sIf (tOfE (dOp2 (blD eqD) (.ex (dOp2 ixD (.nm 7) (.ex (dC (.int 0))))) (.ex (dC (.str "shift"))))) (sSet 4 (dOp2 ixD (.nm 7) (.ex (dC (.int 1))))) (sIf (tOfE (dOp2 (blD eqD) (.ex (dOp2 ixD (.nm 7) (.ex (dC (.int 0))))) (.ex (dC (.str "turn"))))) (sSeq (sAsg (tgT (tgCons (tgN 2) (tgCons (tgN 8) (tgNil)))) (dCall m_turned [.ex (dN 0), .ex (dN 2), .ex (dN 3), .ex (dN 4), .ex (dOp2 ixD (.nm 7) (.ex (dC (.int 1))))]))
    (sSeq (sSto 6 (dN 4) (dOp2 modD (.ex (dOp1 intD (.ex (dOp2 addD (.ex (dOp2 ixD (.nm 6) (.nm 4))) (.ex (dOp2 ixD (.nm 7) (.ex (dC (.int 1))))))))) (.ex (dC (.int 10)))))
    (sSet 5 (dOp2 addD (.nm 5) (.nm 8))))) (sIf (tOfE (dOp2 (blD eqD) (.ex (dOp2 ixD (.nm 7) (.ex (dC (.int 0))))) (.ex (dC (.str "clear register"))))) (sSet 2 (dC (.int 0))) (sSet 6 (dOp2 mulD (.ex (dLst [.one (dC (.int 0))])) (.ex (dOp1 lenD (.nm 6))))))))))
    (sRet (dTup [.one (dN 2), .one (dN 6), .one (dN 3), .one (dN 4), .one (dN 5)])))))
def m_due : Fn := fnD [] 0
    (sRet (dOp1 reprD (.ex (dOp2 addD (.ex (dOp1 listD (.ex (dCall m_state [.ex (dN 0), .ex (dN 1)])))) (.ex (dLst [.one (dN 1), .one (dOp1 lenD (.nm 1))]))))))
def m_o_undo : Fn := fnD [0] 0
    (sSeq (sIf (tOfE (dOp2 (blD eqD) (.ex (dFld 0 "kept_calls")) (.ex (dLst [])))) sStuck sNext)
    (sFldD 0 "kept_calls" (dSl (.ex (dFld 0 "kept_calls")) none (some (dOp1 negD (.ex (dC (.int 1))))))))
def m_longer_right : Fn := fnD [0, 1] 4
    (sSeq (sPar 4 3 (dMeth "fork" m_o_fork 1 []) (dOp1 listD (.nm 3)))
    (sSeq (sFor (itR1 (dC (.int 100))) (tgN 5)
    (sSeq (sExpr (dApp 3 (dCall m_next [.io 0, .ex (dN 2), .ex (dC (.int 99))])))
    (sIf (tNotD (tOfE (dCall m_call [.io 4, .ex (dOp2 ixD (.nm 3) (.ex (dOp1 negD (.ex (dC (.int 1))))))]))) (sRet (dC (.bool false))) sNext)))
    (sSeq (sIf (tOrD (tOfE (dOp2 (blD neD) (.ex (dLenO m_o_len 4)) (.ex (dC (.int 200))))) (tOfE (dOp2 (blD neD) (.ex (dCall m_told [.io 4])) (.ex (dHide (dLend [3] (dCall m_due [.ex (dN 2), .ex (dN 3)]))))))) (sRet (dC (.bool false))) sNext)
    (sSeq (sSet 6 (dMeth "fork" m_o_fork 4 []))
    (sSeq (sIf (tOrD (tOfE (dOp2 (blD neD) (.ex (dLc' 8 (itR1 (dC (.int 200))) (tgN 5) (tOfE (dOp2 (blD isnD) (.ex (dMeth "undo" m_o_undo 6 [])) (.ex (dC .none)))) (dC (.int 1)) [5])) (.ex (dLst [])))) (tOfE (dOp2 (blD neD) (.ex (dCall m_told [.io 6])) (.ex (dCall m_due [.ex (dN 2), .ex (dLst [])]))))) (sRet (dC (.bool false))) sNext)
    (sSeq (sFor (itR3 (dC (.int 199)) (dC (.int 139)) (dOp1 negD (.ex (dC (.int 1))))) (tgN 7)
    (sIf (tOrD (tOfE (dOp2 (blD isnD) (.ex (dMeth "undo" m_o_undo 4 [])) (.ex (dC .none)))) (tOfE (dOp2 (blD neD) (.ex (dLenO m_o_len 4)) (.nm 7)))) (sRet (dC (.bool false))) sNext))
    (sRet (dAnd (dOp2 (blD eqD) (.ex (dCall m_told [.io 4])) (.ex (dCall m_due [.ex (dN 2), .ex (dSl (.nm 3) none (some (dC (.int 140))))]))) (dOp2 (blD eqD) (.ex (dLenO m_o_len 1)) (.ex (dC (.int 100))))))))))))
def m_hundred_right : Fn := fnD [0] 9
    (sSeq (sPar 2 3 (dMake m_o_init [.ex (dN 1)]) (dLc' 11 (itR1 (dC (.int 100))) (tgN 4) tTrue (dCall m_next [.io 0, .ex (dN 1), .ex (dC (.int 99))]) [4]))
    (sSeq (sIf (tOfE (dOp2 (blD neD) (.ex (dLc' 11 (itSeq (dN 3)) (tgN 5) (tNotD (tOfE (dCall m_call [.io 2, .ex (dN 5)]))) (dN 5) [5])) (.ex (dLst [])))) (sRet (dC (.bool false))) sNext)
    (sSeq (sSet 6 (dMeth "fork" m_o_fork 2 []))
    (sSeq (sFor (itSeq (dTup [.one (dC .none), .one (dC (.int 0)), .one (dCall m_draw [.io 0, .ex (dC (.int 80))])])) (tgN 7)
    (sSeq (sPar 8 9 (dOp1 listD (.nm 3)) (dMake m_o_init [.ex (dN 1)]))
    (sSeq (sIf (tOfE (dOp2 (blD isnD) (.nm 7) (.ex (dC .none)))) (sSto 8 (dN 7) (dTup [.one (dC (.str "turn")), .one (dOp2 addD (.ex (dC (.int 100))) (.nm 7))])) sNext)
    (sSeq (sIf (tOfE (dOp2 (blD neD) (.ex (dLc' 11 (itSeq (dN 8)) (tgN 5) (tNotD (tOfE (dCall m_call [.io 9, .ex (dN 5)]))) (dN 5) [5])) (.ex (dLst [])))) (sRet (dC (.bool false))) sNext)
    (sIf (tOfE (dOp2 (blD neD) (.ex (dOp1 reprD (.ex (dLst [.one (dEqG false m_o_eq (.nm 2) (.nm 9)), .one (dEqG false m_o_eq (.nm 9) (.nm 6))])))) (.ex (dOp1 reprD (.ex (dOp2 mulD (.ex (dLst [.one (dOp2 (blD isD) (.nm 7) (.ex (dC .none)))])) (.ex (dC (.int 2))))))))) (sRet (dC (.bool false))) sNext)))))
    (sSeq (sIf (tNotD (tOfE (dCall m_longer_right [.io 0, .io 6, .ex (dN 1), .ex (dN 3)]))) (sRet (dC (.bool false))) sNext)
    (sSeq (sFor (itR3 (dC (.int 99)) (dOp1 negD (.ex (dC (.int 1)))) (dOp1 negD (.ex (dC (.int 1))))) (tgN 10)
    (sSeq (sIf (tOrD (tOfE (dOp2 (blD isnD) (.ex (dMeth "undo" m_o_undo 2 [])) (.ex (dC .none)))) (tOfE (dOp2 (blD neD) (.ex (dLenO m_o_len 2)) (.nm 10)))) (sRet (dC (.bool false))) sNext)
    (sIf (tAndD (tOfE (dOp2 (blD eqD) (.ex (dOp2 modD (.ex (dOp1 intD (.nm 10))) (.ex (dC (.int 10))))) (.ex (dC (.int 0))))) (tOfE (dOp2 (blD neD) (.ex (dCall m_told [.io 2])) (.ex (dCall m_due [.ex (dN 1), .ex (dSl (.nm 3) none (some (dN 10)))]))))) (sRet (dC (.bool false))) sNext)))
    (sSeq (sIf (tOrD (tOfE (dEqG true m_o_eq (.nm 2) (.nw (dMake m_o_init [.ex (dN 1)])))) (tOrD (tOfE (dEqG false m_o_eq (.nm 2) (.nm 6))) (tOfE (dOp2 (blD neD) (.ex (dCall m_told [.io 6])) (.ex (dCall m_due [.ex (dN 1), .ex (dN 3)])))))) (sRet (dC (.bool false))) sNext)
    (sSeq (sFor (itR3 (dC (.int 99)) (dC (.int 59)) (dOp1 negD (.ex (dC (.int 1))))) (tgN 10)
    (sIf (tOrD (tOfE (dOp2 (blD isnD) (.ex (dMeth "undo" m_o_undo 6 [])) (.ex (dC .none)))) (tOfE (dOp2 (blD neD) (.ex (dLenO m_o_len 6)) (.nm 10)))) (sRet (dC (.bool false))) sNext))
    (sRet (dOp2 (blD eqD) (.ex (dCall m_told [.io 6])) (.ex (dCall m_due [.ex (dN 1), .ex (dSl (.nm 3) none (some (dC (.int 60))))]))))))))))))
def m_stepped : Fn := fnD [0, 1] 1
    (sSeq (sIf (tAndD (tOfE (dOp2 (blD neD) (.nm 3) (.ex (dLst [])))) (tOfE (dOp2 (blD eqD) (.ex (dCall m_draw [.io 0, .ex (dC (.int 3))])) (.ex (dC (.int 0)))))) (sRet (dIfE (tOfE (dOp2 (blD isD) (.ex (dMeth "undo" m_o_undo 1 [])) (.ex (dC .none)))) (dSl (.nm 3) none (some (dOp1 negD (.ex (dC (.int 1)))))) (dC .none))) sNext)
    (sSeq (sSet 4 (dCall m_next [.io 0, .ex (dN 2), .ex (dOp2 powD (.ex (dC (.int 10))) (.ex (dC (.int 39))))]))
    (sRet (dIfE (tOfE (dCall m_call [.io 1, .ex (dN 4)])) (dOp2 addD (.nm 3) (.ex (dLst [.one (dN 4)]))) (dC .none)))))
def r_o_log : Fn := fnD [0] 1
    (sRet (dLc' 2 (itSeq (dFldR 0 "kept_calls")) (tgN 1) tTrue (dOp2 ixD (.nm 1) (.ex (dC (.int 0)))) [1]))
def r_o_state_now : Fn := fnD [0] 0
    (sSeq (sIf (tOfE (dOp2 (blD eqD) (.ex (dFldR 0 "kept_calls")) (.ex (dLst [])))) (sRet (dTup [.one (dC (.int 0)), .one (dOp2 mulD (.ex (dLst [.one (dC (.int 0))])) (.ex (dCall m_places_of [.ex (dFldR 0 "kept_machine")]))), .one (dC (.int 0)), .one (dC (.int 0)), .one (dC (.int 0))])) sNext)
    (sRet (dSl (.ex (dOp2 ixD (.ex (dFldR 0 "kept_calls")) (.ex (dOp1 negD (.ex (dC (.int 1))))))) (some (dC (.int 1))) none)))
def r_o_display : Fn := fnD [0] 0
    (sRet (dOp2 ixD (.ex (dMethR "state_now" r_o_state_now 0)) (.ex (dC (.int 0)))))
def r_o_counter : Fn := fnD [0] 0
    (sRet (dOp1 listD (.ex (dOp2 ixD (.ex (dMethR "state_now" r_o_state_now 0)) (.ex (dC (.int 1)))))))
def r_o_setting : Fn := fnD [0] 0
    (sRet (dOp2 ixD (.ex (dMethR "state_now" r_o_state_now 0)) (.ex (dC (.int 2)))))
def r_o_place : Fn := fnD [0] 0
    (sRet (dOp2 ixD (.ex (dMethR "state_now" r_o_state_now 0)) (.ex (dC (.int 3)))))
def r_o_bells : Fn := fnD [0] 0
    (sRet (dOp2 ixD (.ex (dMethR "state_now" r_o_state_now 0)) (.ex (dC (.int 4)))))
def r_o_len : Fn := fnD [0] 0
    (sRet (dOp1 lenD (.ex (dFldR 0 "kept_calls"))))
def r_o_eq : Fn := fnD [0, 1] 0
    (sSeq (sIf (tNotD (tOfE (dIsR 1))) (sRet (dC (.bool false))) sNext)
    (sRet (dOp2 (blD eqD) (.ex (dTup [.one (dFldR 0 "kept_machine"), .one (dPropR r_o_log 0)])) (.ex (dTup [.one (dFldR 1 "kept_machine"), .one (dPropR r_o_log 1)])))))
def r_told : Fn := fnD [0] 1
    (sSeq (sSet 1 (dLst [.one (dPropR r_o_display 0), .one (dPropR r_o_counter 0), .one (dPropR r_o_setting 0), .one (dPropR r_o_place 0), .one (dPropR r_o_bells 0)]))
    (sRet (dOp1 reprD (.ex (dOp2 addD (.nm 1) (.ex (dLst [.one (dPropR r_o_log 0), .one (dLenR r_o_len 0)])))))))
def r_are_right : Fn := fnD [1] 4
    (sSeq (sForG 1 2 3 (sIf (tOfE (dOp2 (blD neD) (.ex (dCall r_told [.io 2])) (.ex (dCall m_due [.ex (dN 0), .ex (dN 3)])))) (sRet (dC (.bool false))) sNext))
    (sSeq (sRowG 1 2 3 (dOp1 negD (.ex (dC (.int 1)))))
    (sRet (dOp2 (blD eqD) (.ex (dLcG 6 1 4 5 (dOp1 reprD (.ex (dEqR r_o_eq 2 4))))) (.ex (dLcG 6 1 4 5 (dOp1 reprD (.ex (dOp2 (blD eqD) (.nm 3) (.nm 5))))))))))
def b_right : Sm :=
    (sSeq (sFor (itR1 (dC (.int 16))) (tgN 5)
    (sSeq (sRowAt 6 7 (dCall m_draw [.io 0, .ex (dLenFam 6)]))
    (sSeq (sIf (tAndD (tOfE (dOp2 (blD ltD) (.ex (dLenFam 6)) (.ex (dC (.int 6))))) (tOfE (dOp2 (blD eqD) (.ex (dCall m_draw [.io 0, .ex (dC (.int 5))])) (.ex (dC (.int 0)))))) (sAppF 6 7 m_o_fork) (sSeq (sRowPut 6 7 (dRowS 6 7 0 1 m_stepped))
    (sIf (tOfE (dOp2 (blD isD) (.ex (dRow1 6 7)) (.ex (dC .none)))) (sRet (dC (.bool false))) sNext)))
    (sIf (tNotD (tOfE (dFamC 1 6 r_are_right))) (sRet (dC (.bool false))) sNext))))
    (sSeq (sForRow 6 7 (sSeq (sWhile (tOfE (dOp2 (blD neD) (.ex (dRow1 6 7)) (.ex (dLst []))))
    (sSeq (sRowPut 6 7 (dSl (.ex (dRow1 6 7)) none (some (dOp1 negD (.ex (dC (.int 1)))))))
    (sIf (tOrD (tOfE (dOp2 (blD isnD) (.ex (dRowM 6 7 m_o_undo)) (.ex (dC .none)))) (tOfE (dOp2 (blD neD) (.ex (dRowM 6 7 m_told)) (.ex (dCall m_due [.ex (dN 1), .ex (dRow1 6 7)]))))) (sRet (dC (.bool false))) sNext)))
    (sIf (tNotD (tOfE (dFamC 1 6 r_are_right))) (sRet (dC (.bool false))) sNext)))
    (sRet (dC (.bool true)))))
def m_right : Fn := fnD [0] 5
    (sNewF 3 4 6 7 m_o_init [.ex (dN 1)] m_o_fork
    (sSeq (sFor (itR1 (dN 2)) (tgN 5)
    (sSeq (sSet 4 (dOp2 addD (.nm 4) (.ex (dLst [.one (dCall m_next [.io 0, .ex (dN 1), .ex (dOp2 powD (.ex (dC (.int 10))) (.ex (dC (.int 39))))])]))))
    (sIf (tNotD (tOfE (dCall m_call [.io 3, .ex (dOp2 ixD (.nm 4) (.ex (dOp1 negD (.ex (dC (.int 1))))))]))) (sRet (dC (.bool false))) sNext)))
    (sIf (tAndD (tOfE (dOp2 (blD neD) (.nm 4) (.ex (dLst [])))) (tOfE (dOp2 (blD eqD) (.ex (dCall m_draw [.io 0, .ex (dC (.int 2))])) (.ex (dC (.int 0)))))) (sSeq (sSet 4 (dSl (.nm 4) none (some (dOp1 negD (.ex (dC (.int 1)))))))
    (sExpr (dMeth "undo" m_o_undo 3 []))) sNext))
    b_right)
def m_kind : Fn := fnD [0] 3
    (sSeq (sSet 2 (dOp2 addD (.ex (dC (.int 1))) (.ex (dCall m_draw [.io 0, .ex (dN 1)]))))
    (sSeq (sSet 3 (dOp2 addD (.ex (dC (.int 1))) (.ex (dCall m_draw [.io 0, .ex (dOp2 ixD (.ex (dLst [.one (dC (.int 1)), .one (dN 2), .one (dOp2 min2D (.ex (dC (.int 3))) (.nm 2))])) (.ex (dCall m_draw [.io 0, .ex (dC (.int 3))])))]))))
    (sSeq (sSet 4 (dOp2 ixD (.ex (dLst [.one (dC (.int 0)), .one (dN 2), .one (dC (.int 1)), .one (dCall m_draw [.io 0, .ex (dOp2 addD (.nm 2) (.ex (dC (.int 1))))])])) (.ex (dCall m_draw [.io 0, .ex (dC (.int 4))]))))
    (sRet (dTup [.one (dN 2), .one (dN 3), .one (dOp2 min2D (.nm 4) (.nm 2))])))))
def m_law : Fn := fnD [] 4
    (sSeq (sSet 1 (dCall m_stock [.ex (dN 0)]))
    (sSeq (sFor (itR1 (dC (.int 4))) (tgN 2)
    (sIf (tNotD (tOfE (dCall m_right [.io 1, .ex (dCall m_kind [.io 1, .ex (dOp2 ixD (.ex (dLst [.one (dC (.int 40)), .one (dC (.int 5))])) (.ex (dCall m_draw [.io 1, .ex (dC (.int 2))])))]), .ex (dCall m_draw [.io 1, .ex (dC (.int 15))])]))) (sRet (dC (.bool false))) sNext))
    (sSeq (sIf (tNotD (tOfE (dCall m_hundred_right [.io 1, .ex (dCall m_kind [.io 1, .ex (dC (.int 12))])]))) (sRet (dC (.bool false))) sNext)
    (sSeq (sSet 3 (dMake m_o_init [.ex (dTup [.one (dC (.int 4)), .one (dC (.int 1)), .one (dC (.int 1))])]))
    (sSeq (sSet 4 (dLst [.one (dMeth "set_to" m_o_set_to 3 [.ex (dC (.int 7))]), .one (dMeth "turn" m_o_turn 3 [.ex (dC (.int 15))]), .one (dMeth "clear_register" m_o_clear_register 3 []), .one (dMeth "clear_counter" m_o_clear_counter 3 []), .one (dMeth "undo" m_o_undo 3 [])]))
    (sSeq (sSet 4 (dOp2 addD (.nm 4) (.ex (dLst [.one (dMeth "undo" m_o_undo 3 []), .one (dProp m_o_display 3), .one (dProp m_o_counter 3), .one (dMeth "undo" m_o_undo 3 []), .one (dProp m_o_bells 3)]))))
    (sRet (dOp2 (blD eqD) (.ex (dOp1 reprD (.nm 4))) (.ex (dOp1 reprD (.ex (dOp2 addD (.ex (dOp2 mulD (.ex (dLst [.one (dC .none)])) (.ex (dC (.int 6))))) (.ex (dLst [.one (dC (.int 5)), .one (dLst [.one (dC (.int 5)), .one (dC (.int 0)), .one (dC (.int 0)), .one (dC (.int 0))]), .one (dC .none), .one (dC (.int 0))]))))))))))))))
end
end CK
namespace CK
open PySem PySem.Spec PyProof.Rows L2
def top (i : Nat) : Stmt := PySem.Challenge.pw_crankcarry_k45_undone_and_forked.main.body.getD i (.Pass ⟨0, 0, 0, 0⟩)
abbrev s_stock : Stmt := top 21
abbrev s_is_integer : Stmt := top 9
abbrev s_is_between : Stmt := top 10
abbrev s_machine_fault : Stmt := top 14
abbrev s_require_machine : Stmt := top 15
abbrev s_o_init : Stmt := cbody (top 19) 0
abbrev s_o_fork : Stmt := cbody (top 19) 9
abbrev s_o_log : Stmt := cbody (top 19) 15
abbrev s_o_eq : Stmt := cbody (top 19) 17
abbrev s_draw : Stmt := top 22
abbrev s_o_len : Stmt := cbody (top 19) 16
abbrev s_tens : Stmt := top 23
abbrev s_figure : Stmt := top 26
abbrev s_next : Stmt := top 33
abbrev s_places_of : Stmt := top 12
abbrev s_o_state_now : Stmt := cbody (top 19) 1
abbrev s_o_keep : Stmt := cbody (top 19) 2
abbrev s_o_clear_counter : Stmt := cbody (top 19) 7
abbrev s_ten_power : Stmt := top 11
abbrev s_require_setting : Stmt := top 16
abbrev s_o_set_to : Stmt := cbody (top 19) 3
abbrev s_require_place : Stmt := top 17
abbrev s_o_shift_to : Stmt := cbody (top 19) 4
abbrev s_edge_of : Stmt := top 13
abbrev s_o_turn : Stmt := cbody (top 19) 5
abbrev s_o_clear_register : Stmt := cbody (top 19) 6
abbrev s_call : Stmt := top 32
abbrev s_o_display : Stmt := cbody (top 19) 10
abbrev s_o_counter : Stmt := cbody (top 19) 11
abbrev s_o_setting : Stmt := cbody (top 19) 12
abbrev s_o_place : Stmt := cbody (top 19) 13
abbrev s_o_bells : Stmt := cbody (top 19) 14
abbrev s_told : Stmt := top 31
abbrev s_edge : Stmt := top 25
abbrev s_turned : Stmt := top 28
abbrev s_state : Stmt := top 29
abbrev s_due : Stmt := top 30
abbrev s_o_undo : Stmt := cbody (top 19) 8
abbrev s_longer_right : Stmt := top 37
abbrev s_hundred_right : Stmt := top 38
abbrev s_stepped : Stmt := top 34
abbrev s_are_right : Stmt := top 35
abbrev s_right : Stmt := top 36
abbrev s_kind : Stmt := top 24
abbrev s_law : Stmt := top 39
structure TX (C : Addr) (K : PySem.W.Frag) (mg : Str → Option Value) where
  cl : Cls K C
  c_own : mg "CrankMachine" = some (.ref C)
  n_kept_calls : NoAttr K C "kept_calls"
  n_kept_machine : NoAttr K C "kept_machine"
  eqc : EqC K C
  e_stock : Ent K mg "_law_stock" s_stock ["_law_script"]
  e_is_integer : Ent K mg "is_integer" s_is_integer ["value"]
  e_is_between : Ent K mg "is_between" s_is_between ["value", "least", "greatest"]
  e_machine_fault : Ent K mg "machine_fault" s_machine_fault ["value"]
  e_require_machine : Ent K mg "require_machine" s_require_machine ["machine"]
  e_o_init : IEntC C K "__init__" "CrankMachine.__init__" s_o_init ["self", "machine"]
  e_o_fork : MEntC C K "fork" "CrankMachine.fork" s_o_fork ["self"]
  e_o_log : PEntF C K "log" "CrankMachine.log" s_o_log ["self"]
  e_o_eq : MEntC C K "__eq__" "CrankMachine.__eq__" s_o_eq ["self", "other"]
  e_draw : Ent K mg "_law_draw" s_draw ["_law_stock_here", "_law_wide"]
  e_o_len : MEntC C K "__len__" "CrankMachine.__len__" s_o_len ["self"]
  e_tens : Ent K mg "_law_tens" s_tens ["_law_count"]
  e_figure : Ent K mg "_law_figure" s_figure ["_law_stock_here", "_law_kind_here"]
  e_next : Ent K mg "_law_next" s_next ["_law_stock_here", "_law_kind_here", "_law_top"]
  e_places_of : Ent K mg "places_of" s_places_of ["machine"]
  e_o_state_now : MEntC C K "state_now" "CrankMachine.state_now" s_o_state_now ["self"]
  e_o_keep : MEntC C K "keep" "CrankMachine.keep" s_o_keep ["self", "call", "state"]
  e_o_clear_counter : MEntC C K "clear_counter" "CrankMachine.clear_counter" s_o_clear_counter ["self"]
  e_ten_power : Ent K mg "ten_power" s_ten_power ["many"]
  e_require_setting : Ent K mg "require_setting" s_require_setting ["machine", "setting"]
  e_o_set_to : MEntC C K "set_to" "CrankMachine.set_to" s_o_set_to ["self", "setting"]
  e_require_place : Ent K mg "require_place" s_require_place ["machine", "place"]
  e_o_shift_to : MEntC C K "shift_to" "CrankMachine.shift_to" s_o_shift_to ["self", "place"]
  e_edge_of : Ent K mg "edge_of" s_edge_of ["machine", "place"]
  e_o_turn : MEntC C K "turn" "CrankMachine.turn" s_o_turn ["self", "turns"]
  e_o_clear_register : MEntC C K "clear_register" "CrankMachine.clear_register" s_o_clear_register ["self"]
  e_call : Ent K mg "_law_call" s_call ["_law_one_here", "_law_call_here"]
  e_o_display : PEntF C K "display" "CrankMachine.display" s_o_display ["self"]
  e_o_counter : PEntF C K "counter" "CrankMachine.counter" s_o_counter ["self"]
  e_o_setting : PEntF C K "setting" "CrankMachine.setting" s_o_setting ["self"]
  e_o_place : PEntF C K "place" "CrankMachine.place" s_o_place ["self"]
  e_o_bells : PEntF C K "bells" "CrankMachine.bells" s_o_bells ["self"]
  e_told : Ent K mg "_law_told" s_told ["_law_one_here"]
  e_edge : Ent K mg "_law_edge" s_edge ["_law_kind_here", "_law_spot"]
  e_turned : Ent K mg "_law_turned" s_turned ["_law_kind_here", "_law_content_here", "_law_figure_here", "_law_spot", "_law_times"]
  e_state : Ent K mg "_law_state" s_state ["_law_kind_here", "_law_calls"]
  e_due : Ent K mg "_law_due" s_due ["_law_kind_here", "_law_calls"]
  e_o_undo : MEntC C K "undo" "CrankMachine.undo" s_o_undo ["self"]
  e_longer_right : Ent K mg "_law_longer_right" s_longer_right ["_law_stock_here", "_law_two", "_law_kind_here", "_law_calls"]
  e_hundred_right : Ent K mg "_law_hundred_right" s_hundred_right ["_law_stock_here", "_law_kind_here"]
  e_stepped : Ent K mg "_law_stepped" s_stepped ["_law_stock_here", "_law_one_here", "_law_kind_here", "_law_calls"]
  e_are_right : Ent K mg "_law_are_right" s_are_right ["_law_kind_here", "_law_family"]
  e_right : Ent K mg "_law_right" s_right ["_law_stock_here", "_law_kind_here", "_law_count"]
  e_kind : Ent K mg "_law_kind" s_kind ["_law_stock_here", "_law_most"]
  e_law : Ent K mg "law" s_law ["_law_script"]
  b_abs : mg "abs" = none
  b_bool : mg "bool" = none
  b_divmod : mg "divmod" = none
  b_int : mg "int" = none
  b_isinstance : mg "isinstance" = none
  b_len : mg "len" = none
  b_list : mg "list" = none
  b_min : mg "min" = none
  b_range : mg "range" = none
  b_repr : mg "repr" = none
  b_tuple : mg "tuple" = none
  c_MOST_PLACES : ∃ t, mg "MOST_PLACES" = some (.int 40 t)
section
variable {P : Program} {w : World} {K : PySem.W.Frag} {mg : Str → Option Value} {base : Heap}
theorem sc_stock : FnScope ["_law_script", "_law_digits", "_law_mixed", "_law_cell", "_law_grown"] ["_law_script"] (defScope s_stock) := ⟨rfl, rfl, rfl, by decide +kernel, rfl, by decide +kernel, by decide +kernel⟩
theorem ok_stock [mm : Memo] [Triv mm] [Still mm] (T : TX Memo.C K mg) : FnG P w K mg base CX0 1 T.e_stock.f T.e_stock.fd ["_law_script"] (spD K 1 m_stock) :=
  okG (k := 0) (n := 1) (m := 4) (Pn := []) T.e_stock.fn sc_stock rfl rfl (by decide) fun cdv A outer s H E hgd hr => by
    have hu := hr.units
    have hu2 := room128 hr
    exact (dss_cons (ds_asg (de_tup (dl_one de_int (dl_one de_int dl_nil))) (dg_tup rfl (dgs_cons (dg_name sc_stock.nd rfl (by first | exact Or.inl rfl | exact Or.inr rfl)) (dgs_cons (dg_name sc_stock.nd rfl (by first | exact Or.inl rfl | exact Or.inr rfl)) dgs_nil)) (tgCons_len (tgCons_len tgNil_len))))
    (dss_cons (ds_for PassesOwn.never rfl (di_seq (de_slF 0 dp_none (dp_some de_int))) (dg_name sc_stock.nd rfl (by first | exact Or.inl rfl | exact Or.inr rfl))
    (dss_cons (ds_if (dt_ge (do_ex (de_abs rfl T.b_abs (do_nm 3))) (do_ex (de_pow (do_ex de_int) (do_ex de_int)))) (dss_one (ds_set sc_stock.nd rfl (by first | exact Or.inl rfl | exact Or.inr rfl) (de_add (do_ex (de_mul (do_nm 1) (do_ex (de_pow (do_ex de_int) (do_ex de_int))))) (do_ex (de_mod (do_ex (de_int1 rfl T.b_int (do_ex (de_abs rfl T.b_abs (do_nm 3))))) (do_ex (de_pow (do_ex de_int) (do_ex de_int)))))))) dss_nil)
    (dss_cons (ds_set sc_stock.nd rfl (by first | exact Or.inl rfl | exact Or.inr rfl) (de_add (do_ex (de_add (do_ex (de_mul (do_nm 2) (do_ex de_int))) (do_ex (de_mod (do_ex (de_int1 rfl T.b_int (do_nm 3))) (do_ex de_int))))) (do_ex de_int)))
    (dss_one (ds_set sc_stock.nd rfl (by first | exact Or.inl rfl | exact Or.inr rfl) (de_mod (do_ex (de_int1 rfl T.b_int (do_nm 4))) (do_ex de_int)))))))
    (dss_one (ds_ret (de_lst (dl_one (de_name 1) (dl_one (de_name 2) (dl_one de_int dl_nil))))))))
theorem sc_is_integer : FnScope ["value"] ["value"] (defScope s_is_integer) := ⟨rfl, rfl, rfl, by decide +kernel, rfl, by decide +kernel, by decide +kernel⟩
theorem ok_is_integer [mm : Memo] [Triv mm] [Still mm] (T : TX Memo.C K mg) : FnG P w K mg base CX0 1 T.e_is_integer.f T.e_is_integer.fd ["value"] (spD K 1 m_is_integer) :=
  okG (k := 0) (n := 1) (m := 0) (Pn := []) T.e_is_integer.fn sc_is_integer rfl rfl (by decide) fun cdv A outer s H E hgd hr => by
    have hu := hr.units
    have hu2 := room128 hr
    exact (dss_one (ds_ret (de_and (de_isi kit_int rfl T.b_isinstance rfl T.b_int (by decide +kernel) (do_nm 0)) (de_one (de_not (de_isi kit_bool rfl T.b_isinstance rfl T.b_bool (by decide +kernel) (do_nm 0)))))))
theorem sc_is_between : FnScope ["value", "least", "greatest"] ["value", "least", "greatest"] (defScope s_is_between) := ⟨rfl, rfl, rfl, by decide +kernel, rfl, by decide +kernel, by decide +kernel⟩
theorem ok_is_between [mm : Memo] [Triv mm] [Still mm] (T : TX Memo.C K mg) : FnG P w K mg base CX0 2 T.e_is_between.f T.e_is_between.fd ["value", "least", "greatest"] (spD K 3 m_is_between) :=
  okG (k := 1) (n := 3) (m := 0) (Pn := []) T.e_is_between.fn sc_is_between rfl rfl (by decide) fun cdv A outer s H E hgd hr => by
    have hu := hr.units
    have hu2 := room128 hr
    exact (dss_one (ds_ret (de_and (de_call hgd (ok_is_integer T) (hr.mono (by decide)) rfl T.e_is_integer.mg T.e_is_integer.kp T.e_is_integer.bd (da_ex (de_name 0) da_nil)) (de_one (de_ch op_le op_le (de_name 1) (de_name 0) (de_name 2))))))
theorem sc_machine_fault : FnScope ["value", "places", "setters", "reach"] ["value"] (defScope s_machine_fault) := ⟨rfl, rfl, rfl, by decide +kernel, rfl, by decide +kernel, by decide +kernel⟩
theorem ok_machine_fault [mm : Memo] [Triv mm] [Still mm] (T : TX Memo.C K mg) : FnG P w K mg base CX0 3 T.e_machine_fault.f T.e_machine_fault.fd ["value"] (spD K 1 m_machine_fault) :=
  okG (k := 2) (n := 1) (m := 3) (Pn := []) T.e_machine_fault.fn sc_machine_fault rfl rfl (by decide) fun cdv A outer s H E hgd hr => by
    have hu := hr.units
    have hu2 := room128 hr
    exact (dss_cons (ds_if (dt_w (dw_or (dt_not (dt_val (de_isi kit_tuple rfl T.b_isinstance rfl T.b_tuple (by decide +kernel) (do_nm 0)))) (dw_or1 (dt_ne hu (do_ex (de_len rfl T.b_len (do_nm 0))) (do_ex de_int))))) (dss_one (ds_ret (de_tup (dl_one de_non dl_nil)))) dss_nil)
    (dss_cons (ds_asg (de_name 0) (dg_tup rfl (dgs_cons (dg_name sc_machine_fault.nd rfl (by first | exact Or.inl rfl | exact Or.inr rfl)) (dgs_cons (dg_name sc_machine_fault.nd rfl (by first | exact Or.inl rfl | exact Or.inr rfl)) (dgs_cons (dg_name sc_machine_fault.nd rfl (by first | exact Or.inl rfl | exact Or.inr rfl)) dgs_nil))) (tgCons_len (tgCons_len (tgCons_len tgNil_len)))))
    (dss_cons (ds_if (dt_not (dt_val (de_call hgd (ok_is_between T) (hr.mono (by decide)) rfl T.e_is_between.mg T.e_is_between.kp T.e_is_between.bd (da_ex (de_name 1) (da_ex de_int (da_ex (de_glob (v := .int 40) rfl T.c_MOST_PLACES.choose_spec ⟨_, rfl⟩ (fun _ => .int _)) da_nil)))))) (dss_one (ds_ret (de_tup (dl_one de_int dl_nil)))) dss_nil)
    (dss_cons (ds_if (dt_not (dt_val (de_call hgd (ok_is_between T) (hr.mono (by decide)) rfl T.e_is_between.mg T.e_is_between.kp T.e_is_between.bd (da_ex (de_name 2) (da_ex de_int (da_ex (de_name 1) da_nil)))))) (dss_one (ds_ret (de_tup (dl_one de_int dl_nil)))) dss_nil)
    (dss_one (ds_ret (de_if (dt_val (de_call hgd (ok_is_between T) (hr.mono (by decide)) rfl T.e_is_between.mg T.e_is_between.kp T.e_is_between.bd (da_ex (de_name 3) (da_ex de_int (da_ex (de_name 1) da_nil))))) (de_tup dl_nil) (de_tup (dl_one de_int dl_nil)))))))))
theorem sc_require_machine : FnScope ["machine", "fault"] ["machine"] (defScope s_require_machine) := ⟨rfl, rfl, rfl, by decide +kernel, rfl, by decide +kernel, by decide +kernel⟩
theorem ok_require_machine [mm : Memo] [Triv mm] [Still mm] (T : TX Memo.C K mg) : FnG P w K mg base CX0 4 T.e_require_machine.f T.e_require_machine.fd ["machine"] (spD K 1 m_require_machine) :=
  okG (k := 3) (n := 1) (m := 1) (Pn := []) T.e_require_machine.fn sc_require_machine rfl rfl (by decide) fun cdv A outer s H E hgd hr => by
    have hu := hr.units
    have hu2 := room128 hr
    exact (dss_cons (ds_set sc_require_machine.nd rfl (by first | exact Or.inl rfl | exact Or.inr rfl) (de_call hgd (ok_machine_fault T) (hr.mono (by decide)) rfl T.e_machine_fault.mg T.e_machine_fault.kp T.e_machine_fault.bd (da_ex (de_name 0) da_nil)))
    (dss_one (ds_if (dt_ne hu (do_nm 1) (do_ex (de_tup dl_nil))) (dss_one ds_stuck) dss_nil)))
theorem sc_o_init : FnScope ["self", "machine"] ["self", "machine"] (defScope s_o_init) := ⟨rfl, rfl, rfl, by decide +kernel, rfl, by decide +kernel, by decide +kernel⟩
theorem ok_o_init [mm : Memo] [Triv mm] [Still mm] (T : TX Memo.C K mg) : FnG P w K mg base CX0 5 T.e_o_init.f T.e_o_init.fd ["self", "machine"] (spD K 2 m_o_init) :=
  okG (k := 4) (n := 2) (m := 0) (Pn := [0]) T.e_o_init.fn sc_o_init rfl rfl (by decide) fun cdv A outer s H E hgd hr => by
    have hu := hr.units
    have hu2 := room128 hr
    exact (dss_cons (ds_expr (de_call hgd (ok_require_machine T) (hr.mono (by decide)) rfl T.e_require_machine.mg T.e_require_machine.kp T.e_require_machine.bd (da_ex (de_name 1) da_nil)))
    (dss_cons (ds_fld 0 T.cl T.n_kept_machine (de_name 1))
    (dss_one (ds_fld 0 T.cl T.n_kept_calls (de_lst dl_nil)))))
theorem sc_o_fork : FnScope ["self", "other"] ["self"] (defScope s_o_fork) := ⟨rfl, rfl, rfl, by decide +kernel, rfl, by decide +kernel, by decide +kernel⟩
theorem ok_o_fork [mm : Memo] [Triv mm] [Still mm] (T : TX Memo.C K mg) : FnG P w K mg base CX0 7 T.e_o_fork.f T.e_o_fork.fd ["self"] (spD K 1 m_o_fork) :=
  okG (k := 6) (n := 1) (m := 1) (Pn := [0]) T.e_o_fork.fn sc_o_fork rfl rfl (by decide) fun cdv A outer s H E hgd hr => by
    have hu := hr.units
    have hu2 := room128 hr
    exact (dss_cons (ds_set sc_o_fork.nd rfl (by first | exact Or.inl rfl | exact Or.inr rfl) (de_make hgd T.e_o_init.make (ok_o_init T) (hr.mono (by decide)) rfl T.c_own T.e_o_init.bd (da_ex (de_fld 0 T.cl T.n_kept_machine) da_nil)))
    (dss_cons (ds_fld 1 T.cl T.n_kept_calls (de_list1 rfl T.b_list (do_ex (de_fld 0 T.cl T.n_kept_calls))))
    (dss_one (ds_retV 1))))
theorem okf_o_fork {C0 : Addr} (T : TX C0 K mg) : FnG P w K mg base CX0 7 T.e_o_fork.f T.e_o_fork.fd ["self"] (spFr C0 K 1 m_o_fork) := by
  letI mm : Memo := plainAt C0
  haveI : Triv mm := inferInstanceAs (Triv (plainAt C0))
  haveI : Still mm := inferInstanceAs (Still (plainAt C0))
  exact forkFr_ok (k := 6) (n := 1) (m := 1) (i := 1) (n2 := 2) (Pn := [0]) T.e_o_fork.fn sc_o_fork rfl rfl (by decide) (by decide) rfl (fun _ _ _ h => dMake_bx h) rfl (fun _ _ _ h => sFldD_nx h) (fun _ _ h _ => sFldD_bx h) fun cdv A outer s H E hgd hr =>
    pss_cons (ps_set sc_o_fork.nd rfl (by first | exact Or.inl rfl | exact Or.inr rfl) (pe_makeG hgd T.e_o_init.make (ok_o_init T) (hr.mono (by decide)) rfl T.c_own T.e_o_init.bd pass0 (da_ex (de_fld 0 T.cl T.n_kept_machine) da_nil))) (pss_cons (ds_fld 1 T.cl T.n_kept_calls (de_list1 rfl T.b_list (do_ex (de_fld 0 T.cl T.n_kept_calls)))) (pss_one (ps_ret (pe_var rfl (by first | exact Or.inl rfl | exact Or.inr (Or.inl rfl) | exact Or.inr (Or.inr rfl)) (by decide) (by decide)))))
abbrev n_o_log : List Str := ["self", "row"]
theorem sc_o_log : FnScope ["self", "row"] ["self"] (defScope s_o_log) := ⟨rfl, rfl, rfl, by decide +kernel, rfl, by decide +kernel, by decide +kernel⟩
theorem ok_o_log [mm : Memo] [Triv mm] [Still mm] (T : TX Memo.C K mg) : FnG P w K mg base CX0 1 T.e_o_log.f T.e_o_log.fd ["self"] (spD K 1 m_o_log) :=
  okG (k := 0) (n := 1) (m := 1) (Pn := [0]) T.e_o_log.fn sc_o_log rfl rfl (by decide) fun cdv A outer s H E hgd hr => by
    have hu := hr.units
    have hu2 := room128 hr
    exact (dss_one (ds_ret (de_lc (own := [("row", 1)]) (n := 2) rfl sc_o_log.nd (di_seq (de_fld 0 T.cl T.n_kept_calls)) (blkOk_by (N := n_o_log) (sc := defScope s_o_log) (by decide +kernel)) (fun _ _ _ _ _ => (dg_name sc_o_log.nd rfl (by first | exact Or.inl rfl | exact Or.inr rfl))) tgN_keep (fun _ _ _ _ _ => dts_nil) (fun _ _ _ _ _ => (de_ix (do_nm 1) (do_ex de_int))))))
theorem sc_o_eq : FnScope ["self", "other"] ["self", "other"] (defScope s_o_eq) := ⟨rfl, rfl, rfl, by decide +kernel, rfl, by decide +kernel, by decide +kernel⟩
theorem ok_o_eq [mm : Memo] [Triv mm] [Still mm] (T : TX Memo.C K mg) : FnG P w K mg base CX0 7 T.e_o_eq.f T.e_o_eq.fd ["self", "other"] (spD K 2 m_o_eq) :=
  okG (k := 6) (n := 2) (m := 0) (Pn := [0, 1]) T.e_o_eq.fn sc_o_eq rfl rfl (by decide) fun cdv A outer s H E hgd hr => by
    have hu := hr.units
    have hu2 := room128 hr
    exact (dss_cons (ds_if (dt_not (dt_val (de_isG 1 T.cl T.eqc rfl T.b_isinstance rfl T.c_own))) (dss_one (ds_ret de_bl)) dss_nil)
    (dss_one (ds_ret (de_eq hu (do_ex (de_tup (dl_one (de_fld 0 T.cl T.n_kept_machine) (dl_one (de_prop 0 hgd T.cl T.e_o_log.pr (ok_o_log T) (hr.mono (by decide)) T.e_o_log.bd) dl_nil)))) (do_ex (de_tup (dl_one (de_fld 1 T.cl T.n_kept_machine) (dl_one (de_prop 1 hgd T.cl T.e_o_log.pr (ok_o_log T) (hr.mono (by decide)) T.e_o_log.bd) dl_nil))))))))
theorem sc_draw : FnScope ["_law_stock_here", "_law_wide", "_law_found", "_law_grown"] ["_law_stock_here", "_law_wide"] (defScope s_draw) := ⟨rfl, rfl, rfl, by decide +kernel, rfl, by decide +kernel, by decide +kernel⟩
theorem ok_draw [mm : Memo] [Triv mm] [Still mm] (T : TX Memo.C K mg) : FnG P w K mg base CX0 1 T.e_draw.f T.e_draw.fd ["_law_stock_here", "_law_wide"] (spD K 2 m_draw) :=
  okG (k := 0) (n := 2) (m := 2) (Pn := [0]) T.e_draw.fn sc_draw rfl rfl (by decide) fun cdv A outer s H E hgd hr => by
    have hu := hr.units
    have hu2 := room128 hr
    exact (dss_cons (ds_if (dt_gt (do_ex (de_ix (do_nm 0) (do_ex de_int))) (do_ex de_int)) (dss_cons (ds_set sc_draw.nd rfl (by first | exact Or.inl rfl | exact Or.inr rfl) (de_mod (do_ex (de_int1 rfl T.b_int (do_ex (de_ix (do_nm 0) (do_ex de_int))))) (do_nm 1)))
    (dss_cons (ds_sto 0 (de_fdiv (do_ex (de_ix (do_nm 0) (do_ex de_int))) (do_nm 1)) de_int)
    (dss_one (ds_retV 2)))) dss_nil)
    (dss_cons (ds_sto 0 (de_add (do_ex (de_ix (do_nm 0) (do_ex de_int))) (do_ex de_int)) de_int)
    (dss_cons (ds_set sc_draw.nd rfl (by first | exact Or.inl rfl | exact Or.inr rfl) (de_add (do_ex (de_ix (do_nm 0) (do_ex de_int))) (do_ex (de_mul (do_ex de_int) (do_ex (de_ix (do_nm 0) (do_ex de_int)))))))
    (dss_cons (ds_set sc_draw.nd rfl (by first | exact Or.inl rfl | exact Or.inr rfl) (de_add (do_ex (de_mod (do_ex (de_int1 rfl T.b_int (do_ex (de_pow (do_nm 3) (do_ex de_int))))) (do_ex de_int))) (do_ex (de_mul (do_ex de_int) (do_ex (de_ix (do_nm 0) (do_ex de_int)))))))
    (dss_cons (ds_set sc_draw.nd rfl (by first | exact Or.inl rfl | exact Or.inr rfl) (de_mod (do_ex (de_int1 rfl T.b_int (do_ex (de_pow (do_nm 3) (do_ex de_int))))) (do_ex de_int)))
    (dss_one (ds_ret (de_mod (do_ex (de_int1 rfl T.b_int (do_ex (de_fdiv (do_nm 3) (do_ex de_int))))) (do_nm 1)))))))))
theorem sc_o_len : FnScope ["self"] ["self"] (defScope s_o_len) := ⟨rfl, rfl, rfl, by decide +kernel, rfl, by decide +kernel, by decide +kernel⟩
theorem ok_o_len [mm : Memo] [Triv mm] [Still mm] (T : TX Memo.C K mg) : FnG P w K mg base CX0 1 T.e_o_len.f T.e_o_len.fd ["self"] (spD K 1 m_o_len) :=
  okG (k := 0) (n := 1) (m := 0) (Pn := [0]) T.e_o_len.fn sc_o_len rfl rfl (by decide) fun cdv A outer s H E hgd hr => by
    have hu := hr.units
    have hu2 := room128 hr
    exact (dss_one (ds_ret (de_len rfl T.b_len (do_ex (de_fld 0 T.cl T.n_kept_calls)))))
theorem sc_tens : FnScope ["_law_count"] ["_law_count"] (defScope s_tens) := ⟨rfl, rfl, rfl, by decide +kernel, rfl, by decide +kernel, by decide +kernel⟩
theorem ok_tens [mm : Memo] [Triv mm] [Still mm] (T : TX Memo.C K mg) : FnG P w K mg base CX0 1 T.e_tens.f T.e_tens.fd ["_law_count"] (spD K 1 m_tens) :=
  okG (k := 0) (n := 1) (m := 0) (Pn := []) T.e_tens.fn sc_tens rfl rfl (by decide) fun cdv A outer s H E hgd hr => by
    have hu := hr.units
    have hu2 := room128 hr
    exact (dss_one (ds_ret (de_int1 rfl T.b_int (do_ex (de_add (do_ex de_str) (do_ex (de_mul (do_ex de_str) (do_nm 0))))))))
theorem sc_figure : FnScope ["_law_stock_here", "_law_kind_here", "_law_top", "_law_some"] ["_law_stock_here", "_law_kind_here"] (defScope s_figure) := ⟨rfl, rfl, rfl, by decide +kernel, rfl, by decide +kernel, by decide +kernel⟩
theorem ok_figure [mm : Memo] [Triv mm] [Still mm] (T : TX Memo.C K mg) : FnG P w K mg base CX0 2 T.e_figure.f T.e_figure.fd ["_law_stock_here", "_law_kind_here"] (spD K 2 m_figure) :=
  okG (k := 1) (n := 2) (m := 2) (Pn := [0]) T.e_figure.fn sc_figure rfl rfl (by decide) fun cdv A outer s H E hgd hr => by
    have hu := hr.units
    have hu2 := room128 hr
    exact (dss_cons (ds_set sc_figure.nd rfl (by first | exact Or.inl rfl | exact Or.inr rfl) (de_call hgd (ok_tens T) (hr.mono (by decide)) rfl T.e_tens.mg T.e_tens.kp T.e_tens.bd (da_ex (de_ix (do_nm 1) (do_ex de_int)) da_nil)))
    (dss_cons (ds_set sc_figure.nd rfl (by first | exact Or.inl rfl | exact Or.inr rfl) (de_lst (dl_one (de_call hgd (ok_draw T) (hr.mono (by decide)) rfl T.e_draw.mg T.e_draw.kp T.e_draw.bd (da_io 0 (da_ex (de_name 2) da_nil))) (dl_one (de_sub (do_nm 2) (do_ex de_int)) (dl_one (de_call hgd (ok_draw T) (hr.mono (by decide)) rfl T.e_draw.mg T.e_draw.kp T.e_draw.bd (da_io 0 (da_ex de_int da_nil))) (dl_one (de_call hgd (ok_tens T) (hr.mono (by decide)) rfl T.e_tens.mg T.e_tens.kp T.e_tens.bd (da_ex (de_call hgd (ok_draw T) (hr.mono (by decide)) rfl T.e_draw.mg T.e_draw.kp T.e_draw.bd (da_io 0 (da_ex (de_ix (do_nm 1) (do_ex de_int)) da_nil))) da_nil)) dl_nil))))))
    (dss_one (ds_ret (de_mod (do_ex (de_int1 rfl T.b_int (do_ex (de_ix (do_nm 3) (do_ex (de_call hgd (ok_draw T) (hr.mono (by decide)) rfl T.e_draw.mg T.e_draw.kp T.e_draw.bd (da_io 0 (da_ex de_int da_nil)))))))) (do_nm 2))))))
theorem sc_next : FnScope ["_law_stock_here", "_law_kind_here", "_law_top", "_law_door"] ["_law_stock_here", "_law_kind_here", "_law_top"] (defScope s_next) := ⟨rfl, rfl, rfl, by decide +kernel, rfl, by decide +kernel, by decide +kernel⟩
theorem ok_next [mm : Memo] [Triv mm] [Still mm] (T : TX Memo.C K mg) : FnG P w K mg base CX0 3 T.e_next.f T.e_next.fd ["_law_stock_here", "_law_kind_here", "_law_top"] (spD K 3 m_next) :=
  okG (k := 2) (n := 3) (m := 1) (Pn := [0]) T.e_next.fn sc_next rfl rfl (by decide) fun cdv A outer s H E hgd hr => by
    have hu := hr.units
    have hu2 := room128 hr
    exact (dss_cons (ds_set sc_next.nd rfl (by first | exact Or.inl rfl | exact Or.inr rfl) (de_call hgd (ok_draw T) (hr.mono (by decide)) rfl T.e_draw.mg T.e_draw.kp T.e_draw.bd (da_io 0 (da_ex de_int da_nil))))
    (dss_cons (ds_if (dt_lt (do_nm 3) (do_ex de_int)) (dss_one (ds_ret (de_tup (dl_one de_str (dl_one (de_call hgd (ok_figure T) (hr.mono (by decide)) rfl T.e_figure.mg T.e_figure.kp T.e_figure.bd (da_io 0 (da_ex (de_name 1) da_nil))) dl_nil))))) dss_nil)
    (dss_cons (ds_if (dt_lt (do_nm 3) (do_ex de_int)) (dss_one (ds_ret (de_tup (dl_one de_str (dl_one (de_call hgd (ok_draw T) (hr.mono (by decide)) rfl T.e_draw.mg T.e_draw.kp T.e_draw.bd (da_io 0 (da_ex (de_add (do_ex (de_sub (do_ex (de_ix (do_nm 1) (do_ex de_int))) (do_ex (de_ix (do_nm 1) (do_ex de_int))))) (do_ex de_int)) da_nil))) dl_nil))))) dss_nil)
    (dss_cons (ds_if (dt_eq hu (do_nm 3) (do_ex de_int)) (dss_one (ds_ret (de_ix (do_ex (de_lst (dl_one (de_tup (dl_one de_str dl_nil)) (dl_one (de_tup (dl_one de_str dl_nil)) dl_nil)))) (do_ex (de_call hgd (ok_draw T) (hr.mono (by decide)) rfl T.e_draw.mg T.e_draw.kp T.e_draw.bd (da_io 0 (da_ex de_int da_nil))))))) dss_nil)
    (dss_one (ds_ret (de_tup (dl_one de_str (dl_one (de_mul (do_ex (de_add (do_ex de_int) (do_ex (de_call hgd (ok_draw T) (hr.mono (by decide)) rfl T.e_draw.mg T.e_draw.kp T.e_draw.bd (da_io 0 (da_ex (de_ix (do_ex (de_lst (dl_one de_int (dl_one de_int (dl_one (de_name 2) dl_nil))))) (do_ex (de_call hgd (ok_draw T) (hr.mono (by decide)) rfl T.e_draw.mg T.e_draw.kp T.e_draw.bd (da_io 0 (da_ex de_int da_nil))))) da_nil)))))) (do_ex (de_ix (do_ex (de_lst (dl_one de_int (dl_one de_int (dl_one (de_neg (do_ex de_int)) dl_nil))))) (do_ex (de_call hgd (ok_draw T) (hr.mono (by decide)) rfl T.e_draw.mg T.e_draw.kp T.e_draw.bd (da_io 0 (da_ex de_int da_nil))))))) dl_nil)))))))))
theorem sc_places_of : FnScope ["machine"] ["machine"] (defScope s_places_of) := ⟨rfl, rfl, rfl, by decide +kernel, rfl, by decide +kernel, by decide +kernel⟩
theorem ok_places_of [mm : Memo] [Triv mm] [Still mm] (T : TX Memo.C K mg) : FnG P w K mg base CX0 1 T.e_places_of.f T.e_places_of.fd ["machine"] (spD K 1 m_places_of) :=
  okG (k := 0) (n := 1) (m := 0) (Pn := []) T.e_places_of.fn sc_places_of rfl rfl (by decide) fun cdv A outer s H E hgd hr => by
    have hu := hr.units
    have hu2 := room128 hr
    exact (dss_one (ds_ret (de_add (do_ex (de_sub (do_ex (de_ix (do_nm 0) (do_ex de_int))) (do_ex (de_ix (do_nm 0) (do_ex de_int))))) (do_ex de_int))))
theorem sc_o_state_now : FnScope ["self"] ["self"] (defScope s_o_state_now) := ⟨rfl, rfl, rfl, by decide +kernel, rfl, by decide +kernel, by decide +kernel⟩
theorem ok_o_state_now [mm : Memo] [Triv mm] [Still mm] (T : TX Memo.C K mg) : FnG P w K mg base CX0 2 T.e_o_state_now.f T.e_o_state_now.fd ["self"] (spD K 1 m_o_state_now) :=
  okG (k := 1) (n := 1) (m := 0) (Pn := [0]) T.e_o_state_now.fn sc_o_state_now rfl rfl (by decide) fun cdv A outer s H E hgd hr => by
    have hu := hr.units
    have hu2 := room128 hr
    exact (dss_cons (ds_if (dt_eq hu (do_ex (de_fld 0 T.cl T.n_kept_calls)) (do_ex (de_lst dl_nil))) (dss_one (ds_ret (de_tup (dl_one de_int (dl_one (de_mul (do_ex (de_lst (dl_one de_int dl_nil))) (do_ex (de_call hgd (ok_places_of T) (hr.mono (by decide)) rfl T.e_places_of.mg T.e_places_of.kp T.e_places_of.bd (da_ex (de_fld 0 T.cl T.n_kept_machine) da_nil)))) (dl_one de_int (dl_one de_int (dl_one de_int dl_nil)))))))) dss_nil)
    (dss_one (ds_ret (de_sl (do_ex (de_ix (do_ex (de_fld 0 T.cl T.n_kept_calls)) (do_ex (de_neg (do_ex de_int))))) (dp_some de_int) dp_none))))
theorem sc_o_keep : FnScope ["self", "call", "state"] ["self", "call", "state"] (defScope s_o_keep) := ⟨rfl, rfl, rfl, by decide +kernel, rfl, by decide +kernel, by decide +kernel⟩
theorem ok_o_keep [mm : Memo] [Triv mm] [Still mm] (T : TX Memo.C K mg) : FnG P w K mg base CX0 1 T.e_o_keep.f T.e_o_keep.fd ["self", "call", "state"] (spD K 3 m_o_keep) :=
  okG (k := 0) (n := 3) (m := 0) (Pn := [0]) T.e_o_keep.fn sc_o_keep rfl rfl (by decide) fun cdv A outer s H E hgd hr => by
    have hu := hr.units
    have hu2 := room128 hr
    exact (dss_one (ds_fld 0 T.cl T.n_kept_calls (de_lst (dl_star (de_fld 0 T.cl T.n_kept_calls) (dl_one (de_tup (dl_one (de_name 1) (dl_star (de_name 2) dl_nil))) dl_nil)))))
theorem sc_o_clear_counter : FnScope ["self", "display", "counter", "setting", "place", "bells"] ["self"] (defScope s_o_clear_counter) := ⟨rfl, rfl, rfl, by decide +kernel, rfl, by decide +kernel, by decide +kernel⟩
theorem ok_o_clear_counter [mm : Memo] [Triv mm] [Still mm] (T : TX Memo.C K mg) : FnG P w K mg base CX0 3 T.e_o_clear_counter.f T.e_o_clear_counter.fd ["self"] (spD K 1 m_o_clear_counter) :=
  okG (k := 2) (n := 1) (m := 5) (Pn := [0]) T.e_o_clear_counter.fn sc_o_clear_counter rfl rfl (by decide) fun cdv A outer s H E hgd hr => by
    have hu := hr.units
    have hu2 := room128 hr
    exact (dss_cons (ds_asg (de_meth0 0 hgd T.cl T.e_o_state_now.mt (ok_o_state_now T) (hr.mono (by decide)) T.e_o_state_now.bd) (dg_tup rfl (dgs_cons (dg_name sc_o_clear_counter.nd rfl (by first | exact Or.inl rfl | exact Or.inr rfl)) (dgs_cons (dg_name sc_o_clear_counter.nd rfl (by first | exact Or.inl rfl | exact Or.inr rfl)) (dgs_cons (dg_name sc_o_clear_counter.nd rfl (by first | exact Or.inl rfl | exact Or.inr rfl)) (dgs_cons (dg_name sc_o_clear_counter.nd rfl (by first | exact Or.inl rfl | exact Or.inr rfl)) (dgs_cons (dg_name sc_o_clear_counter.nd rfl (by first | exact Or.inl rfl | exact Or.inr rfl)) dgs_nil))))) (tgCons_len (tgCons_len (tgCons_len (tgCons_len (tgCons_len tgNil_len)))))))
    (dss_one (ds_expr (de_meth 0 hgd T.cl T.e_o_keep.mt (ok_o_keep T) (hr.mono (by decide)) T.e_o_keep.bd (da_ex (de_tup (dl_one de_str dl_nil)) (da_ex (de_tup (dl_one (de_name 1) (dl_one (de_mul (do_ex (de_lst (dl_one de_int dl_nil))) (do_ex (de_len rfl T.b_len (do_nm 2)))) (dl_one (de_name 3) (dl_one (de_name 4) (dl_one (de_name 5) dl_nil)))))) da_nil))))))
theorem sc_ten_power : FnScope ["many"] ["many"] (defScope s_ten_power) := ⟨rfl, rfl, rfl, by decide +kernel, rfl, by decide +kernel, by decide +kernel⟩
theorem ok_ten_power [mm : Memo] [Triv mm] [Still mm] (T : TX Memo.C K mg) : FnG P w K mg base CX0 1 T.e_ten_power.f T.e_ten_power.fd ["many"] (spD K 1 m_ten_power) :=
  okG (k := 0) (n := 1) (m := 0) (Pn := []) T.e_ten_power.fn sc_ten_power rfl rfl (by decide) fun cdv A outer s H E hgd hr => by
    have hu := hr.units
    have hu2 := room128 hr
    exact (dss_one (ds_ret (de_int1 rfl T.b_int (do_ex (de_add (do_ex de_str) (do_ex (de_mul (do_ex de_str) (do_nm 0))))))))
theorem sc_require_setting : FnScope ["machine", "setting"] ["machine", "setting"] (defScope s_require_setting) := ⟨rfl, rfl, rfl, by decide +kernel, rfl, by decide +kernel, by decide +kernel⟩
theorem ok_require_setting [mm : Memo] [Triv mm] [Still mm] (T : TX Memo.C K mg) : FnG P w K mg base CX0 3 T.e_require_setting.f T.e_require_setting.fd ["machine", "setting"] (spD K 2 m_require_setting) :=
  okG (k := 2) (n := 2) (m := 0) (Pn := []) T.e_require_setting.fn sc_require_setting rfl rfl (by decide) fun cdv A outer s H E hgd hr => by
    have hu := hr.units
    have hu2 := room128 hr
    exact (dss_one (ds_if (dt_not (dt_val (de_call hgd (ok_is_between T) (hr.mono (by decide)) rfl T.e_is_between.mg T.e_is_between.kp T.e_is_between.bd (da_ex (de_name 1) (da_ex de_int (da_ex (de_sub (do_ex (de_call hgd (ok_ten_power T) (hr.mono (by decide)) rfl T.e_ten_power.mg T.e_ten_power.kp T.e_ten_power.bd (da_ex (de_ix (do_nm 0) (do_ex de_int)) da_nil))) (do_ex de_int)) da_nil)))))) (dss_one ds_stuck) dss_nil))
theorem sc_o_set_to : FnScope ["self", "setting", "display", "counter", "old", "place", "bells"] ["self", "setting"] (defScope s_o_set_to) := ⟨rfl, rfl, rfl, by decide +kernel, rfl, by decide +kernel, by decide +kernel⟩
theorem ok_o_set_to [mm : Memo] [Triv mm] [Still mm] (T : TX Memo.C K mg) : FnG P w K mg base CX0 4 T.e_o_set_to.f T.e_o_set_to.fd ["self", "setting"] (spD K 2 m_o_set_to) :=
  okG (k := 3) (n := 2) (m := 5) (Pn := [0]) T.e_o_set_to.fn sc_o_set_to rfl rfl (by decide) fun cdv A outer s H E hgd hr => by
    have hu := hr.units
    have hu2 := room128 hr
    exact (dss_cons (ds_expr (de_call hgd (ok_require_setting T) (hr.mono (by decide)) rfl T.e_require_setting.mg T.e_require_setting.kp T.e_require_setting.bd (da_ex (de_fld 0 T.cl T.n_kept_machine) (da_ex (de_name 1) da_nil))))
    (dss_cons (ds_asg (de_meth0 0 hgd T.cl T.e_o_state_now.mt (ok_o_state_now T) (hr.mono (by decide)) T.e_o_state_now.bd) (dg_tup rfl (dgs_cons (dg_name sc_o_set_to.nd rfl (by first | exact Or.inl rfl | exact Or.inr rfl)) (dgs_cons (dg_name sc_o_set_to.nd rfl (by first | exact Or.inl rfl | exact Or.inr rfl)) (dgs_cons (dg_name sc_o_set_to.nd rfl (by first | exact Or.inl rfl | exact Or.inr rfl)) (dgs_cons (dg_name sc_o_set_to.nd rfl (by first | exact Or.inl rfl | exact Or.inr rfl)) (dgs_cons (dg_name sc_o_set_to.nd rfl (by first | exact Or.inl rfl | exact Or.inr rfl)) dgs_nil))))) (tgCons_len (tgCons_len (tgCons_len (tgCons_len (tgCons_len tgNil_len)))))))
    (dss_one (ds_expr (de_meth 0 hgd T.cl T.e_o_keep.mt (ok_o_keep T) (hr.mono (by decide)) T.e_o_keep.bd (da_ex (de_tup (dl_one de_str (dl_one (de_name 1) dl_nil))) (da_ex (de_tup (dl_one (de_name 2) (dl_one (de_name 3) (dl_one (de_name 1) (dl_one (de_name 5) (dl_one (de_name 6) dl_nil)))))) da_nil)))))))
theorem sc_require_place : FnScope ["machine", "place"] ["machine", "place"] (defScope s_require_place) := ⟨rfl, rfl, rfl, by decide +kernel, rfl, by decide +kernel, by decide +kernel⟩
theorem ok_require_place [mm : Memo] [Triv mm] [Still mm] (T : TX Memo.C K mg) : FnG P w K mg base CX0 3 T.e_require_place.f T.e_require_place.fd ["machine", "place"] (spD K 2 m_require_place) :=
  okG (k := 2) (n := 2) (m := 0) (Pn := []) T.e_require_place.fn sc_require_place rfl rfl (by decide) fun cdv A outer s H E hgd hr => by
    have hu := hr.units
    have hu2 := room128 hr
    exact (dss_one (ds_if (dt_not (dt_val (de_call hgd (ok_is_between T) (hr.mono (by decide)) rfl T.e_is_between.mg T.e_is_between.kp T.e_is_between.bd (da_ex (de_name 1) (da_ex de_int (da_ex (de_sub (do_ex (de_call hgd (ok_places_of T) (hr.mono (by decide)) rfl T.e_places_of.mg T.e_places_of.kp T.e_places_of.bd (da_ex (de_name 0) da_nil))) (do_ex de_int)) da_nil)))))) (dss_one ds_stuck) dss_nil))
theorem sc_o_shift_to : FnScope ["self", "place", "display", "counter", "setting", "old", "bells"] ["self", "place"] (defScope s_o_shift_to) := ⟨rfl, rfl, rfl, by decide +kernel, rfl, by decide +kernel, by decide +kernel⟩
theorem ok_o_shift_to [mm : Memo] [Triv mm] [Still mm] (T : TX Memo.C K mg) : FnG P w K mg base CX0 4 T.e_o_shift_to.f T.e_o_shift_to.fd ["self", "place"] (spD K 2 m_o_shift_to) :=
  okG (k := 3) (n := 2) (m := 5) (Pn := [0]) T.e_o_shift_to.fn sc_o_shift_to rfl rfl (by decide) fun cdv A outer s H E hgd hr => by
    have hu := hr.units
    have hu2 := room128 hr
    exact (dss_cons (ds_expr (de_call hgd (ok_require_place T) (hr.mono (by decide)) rfl T.e_require_place.mg T.e_require_place.kp T.e_require_place.bd (da_ex (de_fld 0 T.cl T.n_kept_machine) (da_ex (de_name 1) da_nil))))
    (dss_cons (ds_asg (de_meth0 0 hgd T.cl T.e_o_state_now.mt (ok_o_state_now T) (hr.mono (by decide)) T.e_o_state_now.bd) (dg_tup rfl (dgs_cons (dg_name sc_o_shift_to.nd rfl (by first | exact Or.inl rfl | exact Or.inr rfl)) (dgs_cons (dg_name sc_o_shift_to.nd rfl (by first | exact Or.inl rfl | exact Or.inr rfl)) (dgs_cons (dg_name sc_o_shift_to.nd rfl (by first | exact Or.inl rfl | exact Or.inr rfl)) (dgs_cons (dg_name sc_o_shift_to.nd rfl (by first | exact Or.inl rfl | exact Or.inr rfl)) (dgs_cons (dg_name sc_o_shift_to.nd rfl (by first | exact Or.inl rfl | exact Or.inr rfl)) dgs_nil))))) (tgCons_len (tgCons_len (tgCons_len (tgCons_len (tgCons_len tgNil_len)))))))
    (dss_one (ds_expr (de_meth 0 hgd T.cl T.e_o_keep.mt (ok_o_keep T) (hr.mono (by decide)) T.e_o_keep.bd (da_ex (de_tup (dl_one de_str (dl_one (de_name 1) dl_nil))) (da_ex (de_tup (dl_one (de_name 2) (dl_one (de_name 3) (dl_one (de_name 4) (dl_one (de_name 1) (dl_one (de_name 6) dl_nil)))))) da_nil)))))))
theorem sc_edge_of : FnScope ["machine", "place"] ["machine", "place"] (defScope s_edge_of) := ⟨rfl, rfl, rfl, by decide +kernel, rfl, by decide +kernel, by decide +kernel⟩
theorem ok_edge_of [mm : Memo] [Triv mm] [Still mm] (T : TX Memo.C K mg) : FnG P w K mg base CX0 1 T.e_edge_of.f T.e_edge_of.fd ["machine", "place"] (spD K 2 m_edge_of) :=
  okG (k := 0) (n := 2) (m := 0) (Pn := []) T.e_edge_of.fn sc_edge_of rfl rfl (by decide) fun cdv A outer s H E hgd hr => by
    have hu := hr.units
    have hu2 := room128 hr
    exact (dss_one (ds_ret (de_min2 rfl rfl T.b_min (do_ex (de_add (do_ex (de_add (do_nm 1) (do_ex (de_ix (do_nm 0) (do_ex de_int))))) (do_ex (de_ix (do_nm 0) (do_ex de_int))))) (do_ex (de_ix (do_nm 0) (do_ex de_int))))))
theorem sc_o_turn : FnScope ["self", "turns", "display", "counter", "setting", "place", "bells", "size", "low", "lost", "later"] ["self", "turns"] (defScope s_o_turn) := ⟨rfl, rfl, rfl, by decide +kernel, rfl, by decide +kernel, by decide +kernel⟩
theorem ok_o_turn [mm : Memo] [Triv mm] [Still mm] (T : TX Memo.C K mg) : FnG P w K mg base CX0 3 T.e_o_turn.f T.e_o_turn.fd ["self", "turns"] (spD K 2 m_o_turn) :=
  okG (k := 2) (n := 2) (m := 9) (Pn := [0]) T.e_o_turn.fn sc_o_turn rfl rfl (by decide) fun cdv A outer s H E hgd hr => by
    have hu := hr.units
    have hu2 := room128 hr
    exact (dss_cons (ds_if (dt_w (dw_or (dt_not (dt_val (de_call hgd (ok_is_integer T) (hr.mono (by decide)) rfl T.e_is_integer.mg T.e_is_integer.kp T.e_is_integer.bd (da_ex (de_name 1) da_nil)))) (dw_or1 (dt_eq hu (do_nm 1) (do_ex de_int))))) (dss_one ds_stuck) dss_nil)
    (dss_cons (ds_asg (de_meth0 0 hgd T.cl T.e_o_state_now.mt (ok_o_state_now T) (hr.mono (by decide)) T.e_o_state_now.bd) (dg_tup rfl (dgs_cons (dg_name sc_o_turn.nd rfl (by first | exact Or.inl rfl | exact Or.inr rfl)) (dgs_cons (dg_name sc_o_turn.nd rfl (by first | exact Or.inl rfl | exact Or.inr rfl)) (dgs_cons (dg_name sc_o_turn.nd rfl (by first | exact Or.inl rfl | exact Or.inr rfl)) (dgs_cons (dg_name sc_o_turn.nd rfl (by first | exact Or.inl rfl | exact Or.inr rfl)) (dgs_cons (dg_name sc_o_turn.nd rfl (by first | exact Or.inl rfl | exact Or.inr rfl)) dgs_nil))))) (tgCons_len (tgCons_len (tgCons_len (tgCons_len (tgCons_len tgNil_len)))))))
    (dss_cons (ds_set sc_o_turn.nd rfl (by first | exact Or.inl rfl | exact Or.inr rfl) (de_call hgd (ok_ten_power T) (hr.mono (by decide)) rfl T.e_ten_power.mg T.e_ten_power.kp T.e_ten_power.bd (da_ex (de_call hgd (ok_edge_of T) (hr.mono (by decide)) rfl T.e_edge_of.mg T.e_edge_of.kp T.e_edge_of.bd (da_ex (de_fld 0 T.cl T.n_kept_machine) (da_ex (de_name 5) da_nil))) da_nil)))
    (dss_cons (ds_set sc_o_turn.nd rfl (by first | exact Or.inl rfl | exact Or.inr rfl) (de_mod (do_nm 2) (do_nm 7)))
    (dss_cons (ds_asg (de_divmod rfl T.b_divmod (do_ex (de_add (do_nm 8) (do_ex (de_mul (do_ex (de_mul (do_nm 1) (do_nm 4))) (do_ex (de_call hgd (ok_ten_power T) (hr.mono (by decide)) rfl T.e_ten_power.mg T.e_ten_power.kp T.e_ten_power.bd (da_ex (de_name 5) da_nil))))))) (do_nm 7)) (dg_tup rfl (dgs_cons (dg_name sc_o_turn.nd rfl (by first | exact Or.inl rfl | exact Or.inr rfl)) (dgs_cons (dg_name sc_o_turn.nd rfl (by first | exact Or.inl rfl | exact Or.inr rfl)) dgs_nil)) (tgCons_len (tgCons_len tgNil_len))))
    (dss_cons (ds_set sc_o_turn.nd rfl (by first | exact Or.inl rfl | exact Or.inr rfl) (de_lst (dl_star (de_sl (do_nm 3) dp_none (dp_some (de_name 5))) (dl_one (de_mod (do_ex (de_add (do_ex (de_ix (do_nm 3) (do_nm 5))) (do_nm 1))) (do_ex de_int)) (dl_star (de_sl (do_nm 3) (dp_some (de_add (do_nm 5) (do_ex de_int))) dp_none) dl_nil)))))
    (dss_one (ds_expr (de_meth 0 hgd T.cl T.e_o_keep.mt (ok_o_keep T) (hr.mono (by decide)) T.e_o_keep.bd (da_ex (de_tup (dl_one de_str (dl_one (de_name 1) dl_nil))) (da_ex (de_tup (dl_one (de_add (do_ex (de_sub (do_nm 2) (do_nm 8))) (do_nm 10)) (dl_one (de_name 3) (dl_one (de_name 4) (dl_one (de_name 5) (dl_one (de_add (do_nm 6) (do_ex (de_abs rfl T.b_abs (do_nm 9)))) dl_nil)))))) da_nil)))))))))))
theorem sc_o_clear_register : FnScope ["self", "display", "counter", "setting", "place", "bells"] ["self"] (defScope s_o_clear_register) := ⟨rfl, rfl, rfl, by decide +kernel, rfl, by decide +kernel, by decide +kernel⟩
theorem ok_o_clear_register [mm : Memo] [Triv mm] [Still mm] (T : TX Memo.C K mg) : FnG P w K mg base CX0 3 T.e_o_clear_register.f T.e_o_clear_register.fd ["self"] (spD K 1 m_o_clear_register) :=
  okG (k := 2) (n := 1) (m := 5) (Pn := [0]) T.e_o_clear_register.fn sc_o_clear_register rfl rfl (by decide) fun cdv A outer s H E hgd hr => by
    have hu := hr.units
    have hu2 := room128 hr
    exact (dss_cons (ds_asg (de_meth0 0 hgd T.cl T.e_o_state_now.mt (ok_o_state_now T) (hr.mono (by decide)) T.e_o_state_now.bd) (dg_tup rfl (dgs_cons (dg_name sc_o_clear_register.nd rfl (by first | exact Or.inl rfl | exact Or.inr rfl)) (dgs_cons (dg_name sc_o_clear_register.nd rfl (by first | exact Or.inl rfl | exact Or.inr rfl)) (dgs_cons (dg_name sc_o_clear_register.nd rfl (by first | exact Or.inl rfl | exact Or.inr rfl)) (dgs_cons (dg_name sc_o_clear_register.nd rfl (by first | exact Or.inl rfl | exact Or.inr rfl)) (dgs_cons (dg_name sc_o_clear_register.nd rfl (by first | exact Or.inl rfl | exact Or.inr rfl)) dgs_nil))))) (tgCons_len (tgCons_len (tgCons_len (tgCons_len (tgCons_len tgNil_len)))))))
    (dss_one (ds_expr (de_meth 0 hgd T.cl T.e_o_keep.mt (ok_o_keep T) (hr.mono (by decide)) T.e_o_keep.bd (da_ex (de_tup (dl_one de_str dl_nil)) (da_ex (de_tup (dl_one de_int (dl_one (de_name 2) (dl_one (de_name 3) (dl_one (de_name 4) (dl_one (de_name 5) dl_nil)))))) da_nil))))))
theorem sc_call : FnScope ["_law_one_here", "_law_call_here"] ["_law_one_here", "_law_call_here"] (defScope s_call) := ⟨rfl, rfl, rfl, by decide +kernel, rfl, by decide +kernel, by decide +kernel⟩
theorem ok_call [mm : Memo] [Triv mm] [Still mm] (T : TX Memo.C K mg) : FnG P w K mg base CX0 5 T.e_call.f T.e_call.fd ["_law_one_here", "_law_call_here"] (spD K 2 m_call) :=
  okG (k := 4) (n := 2) (m := 0) (Pn := [0]) T.e_call.fn sc_call rfl rfl (by decide) fun cdv A outer s H E hgd hr => by
    have hu := hr.units
    have hu2 := room128 hr
    exact (dss_cons (ds_if (dt_eq hu (do_ex (de_ix (do_nm 1) (do_ex de_int))) (do_ex de_str)) (dss_one (ds_ret (de_is (do_ex (de_meth 0 hgd T.cl T.e_o_set_to.mt (ok_o_set_to T) (hr.mono (by decide)) T.e_o_set_to.bd (da_ex (de_ix (do_nm 1) (do_ex de_int)) da_nil))) (do_ex de_non)))) dss_nil)
    (dss_cons (ds_if (dt_eq hu (do_ex (de_ix (do_nm 1) (do_ex de_int))) (do_ex de_str)) (dss_one (ds_ret (de_is (do_ex (de_meth 0 hgd T.cl T.e_o_shift_to.mt (ok_o_shift_to T) (hr.mono (by decide)) T.e_o_shift_to.bd (da_ex (de_ix (do_nm 1) (do_ex de_int)) da_nil))) (do_ex de_non)))) dss_nil)
    (dss_cons (ds_if (dt_eq hu (do_ex (de_ix (do_nm 1) (do_ex de_int))) (do_ex de_str)) (dss_one (ds_ret (de_is (do_ex (de_meth 0 hgd T.cl T.e_o_turn.mt (ok_o_turn T) (hr.mono (by decide)) T.e_o_turn.bd (da_ex (de_ix (do_nm 1) (do_ex de_int)) da_nil))) (do_ex de_non)))) dss_nil)
    (dss_cons (ds_if (dt_eq hu (do_ex (de_ix (do_nm 1) (do_ex de_int))) (do_ex de_str)) (dss_one (ds_ret (de_is (do_ex (de_meth0 0 hgd T.cl T.e_o_clear_register.mt (ok_o_clear_register T) (hr.mono (by decide)) T.e_o_clear_register.bd)) (do_ex de_non)))) dss_nil)
    (dss_one (ds_ret (de_is (do_ex (de_meth0 0 hgd T.cl T.e_o_clear_counter.mt (ok_o_clear_counter T) (hr.mono (by decide)) T.e_o_clear_counter.bd)) (do_ex de_non))))))))
theorem sc_o_display : FnScope ["self"] ["self"] (defScope s_o_display) := ⟨rfl, rfl, rfl, by decide +kernel, rfl, by decide +kernel, by decide +kernel⟩
theorem ok_o_display [mm : Memo] [Triv mm] [Still mm] (T : TX Memo.C K mg) : FnG P w K mg base CX0 3 T.e_o_display.f T.e_o_display.fd ["self"] (spD K 1 m_o_display) :=
  okG (k := 2) (n := 1) (m := 0) (Pn := [0]) T.e_o_display.fn sc_o_display rfl rfl (by decide) fun cdv A outer s H E hgd hr => by
    have hu := hr.units
    have hu2 := room128 hr
    exact (dss_one (ds_ret (de_ix (do_ex (de_meth0 0 hgd T.cl T.e_o_state_now.mt (ok_o_state_now T) (hr.mono (by decide)) T.e_o_state_now.bd)) (do_ex de_int))))
theorem sc_o_counter : FnScope ["self"] ["self"] (defScope s_o_counter) := ⟨rfl, rfl, rfl, by decide +kernel, rfl, by decide +kernel, by decide +kernel⟩
theorem ok_o_counter [mm : Memo] [Triv mm] [Still mm] (T : TX Memo.C K mg) : FnG P w K mg base CX0 3 T.e_o_counter.f T.e_o_counter.fd ["self"] (spD K 1 m_o_counter) :=
  okG (k := 2) (n := 1) (m := 0) (Pn := [0]) T.e_o_counter.fn sc_o_counter rfl rfl (by decide) fun cdv A outer s H E hgd hr => by
    have hu := hr.units
    have hu2 := room128 hr
    exact (dss_one (ds_ret (de_list1 rfl T.b_list (do_ex (de_ix (do_ex (de_meth0 0 hgd T.cl T.e_o_state_now.mt (ok_o_state_now T) (hr.mono (by decide)) T.e_o_state_now.bd)) (do_ex de_int))))))
theorem sc_o_setting : FnScope ["self"] ["self"] (defScope s_o_setting) := ⟨rfl, rfl, rfl, by decide +kernel, rfl, by decide +kernel, by decide +kernel⟩
theorem ok_o_setting [mm : Memo] [Triv mm] [Still mm] (T : TX Memo.C K mg) : FnG P w K mg base CX0 3 T.e_o_setting.f T.e_o_setting.fd ["self"] (spD K 1 m_o_setting) :=
  okG (k := 2) (n := 1) (m := 0) (Pn := [0]) T.e_o_setting.fn sc_o_setting rfl rfl (by decide) fun cdv A outer s H E hgd hr => by
    have hu := hr.units
    have hu2 := room128 hr
    exact (dss_one (ds_ret (de_ix (do_ex (de_meth0 0 hgd T.cl T.e_o_state_now.mt (ok_o_state_now T) (hr.mono (by decide)) T.e_o_state_now.bd)) (do_ex de_int))))
theorem sc_o_place : FnScope ["self"] ["self"] (defScope s_o_place) := ⟨rfl, rfl, rfl, by decide +kernel, rfl, by decide +kernel, by decide +kernel⟩
theorem ok_o_place [mm : Memo] [Triv mm] [Still mm] (T : TX Memo.C K mg) : FnG P w K mg base CX0 3 T.e_o_place.f T.e_o_place.fd ["self"] (spD K 1 m_o_place) :=
  okG (k := 2) (n := 1) (m := 0) (Pn := [0]) T.e_o_place.fn sc_o_place rfl rfl (by decide) fun cdv A outer s H E hgd hr => by
    have hu := hr.units
    have hu2 := room128 hr
    exact (dss_one (ds_ret (de_ix (do_ex (de_meth0 0 hgd T.cl T.e_o_state_now.mt (ok_o_state_now T) (hr.mono (by decide)) T.e_o_state_now.bd)) (do_ex de_int))))
theorem sc_o_bells : FnScope ["self"] ["self"] (defScope s_o_bells) := ⟨rfl, rfl, rfl, by decide +kernel, rfl, by decide +kernel, by decide +kernel⟩
theorem ok_o_bells [mm : Memo] [Triv mm] [Still mm] (T : TX Memo.C K mg) : FnG P w K mg base CX0 3 T.e_o_bells.f T.e_o_bells.fd ["self"] (spD K 1 m_o_bells) :=
  okG (k := 2) (n := 1) (m := 0) (Pn := [0]) T.e_o_bells.fn sc_o_bells rfl rfl (by decide) fun cdv A outer s H E hgd hr => by
    have hu := hr.units
    have hu2 := room128 hr
    exact (dss_one (ds_ret (de_ix (do_ex (de_meth0 0 hgd T.cl T.e_o_state_now.mt (ok_o_state_now T) (hr.mono (by decide)) T.e_o_state_now.bd)) (do_ex de_int))))
theorem sc_told : FnScope ["_law_one_here", "_law_told_here"] ["_law_one_here"] (defScope s_told) := ⟨rfl, rfl, rfl, by decide +kernel, rfl, by decide +kernel, by decide +kernel⟩
theorem ok_told [mm : Memo] [Triv mm] [Still mm] (T : TX Memo.C K mg) : FnG P w K mg base CX0 5 T.e_told.f T.e_told.fd ["_law_one_here"] (spD K 1 m_told) :=
  okG (k := 4) (n := 1) (m := 1) (Pn := [0]) T.e_told.fn sc_told rfl rfl (by decide) fun cdv A outer s H E hgd hr => by
    have hu := hr.units
    have hu2 := room128 hr
    exact (dss_cons (ds_set sc_told.nd rfl (by first | exact Or.inl rfl | exact Or.inr rfl) (de_lst (dl_one (de_prop 0 hgd T.cl T.e_o_display.pr (ok_o_display T) (hr.mono (by decide)) T.e_o_display.bd) (dl_one (de_prop 0 hgd T.cl T.e_o_counter.pr (ok_o_counter T) (hr.mono (by decide)) T.e_o_counter.bd) (dl_one (de_prop 0 hgd T.cl T.e_o_setting.pr (ok_o_setting T) (hr.mono (by decide)) T.e_o_setting.bd) (dl_one (de_prop 0 hgd T.cl T.e_o_place.pr (ok_o_place T) (hr.mono (by decide)) T.e_o_place.bd) (dl_one (de_prop 0 hgd T.cl T.e_o_bells.pr (ok_o_bells T) (hr.mono (by decide)) T.e_o_bells.bd) dl_nil)))))))
    (dss_one (ds_ret (de_repr hgd hu2 rfl T.b_repr (do_ex (de_add (do_nm 1) (do_ex (de_lst (dl_one (de_prop 0 hgd T.cl T.e_o_log.pr (ok_o_log T) (hr.mono (by decide)) T.e_o_log.bd) (dl_one (de_lenO 0 hgd T.e_o_len.mt (ok_o_len T) (hr.mono (by decide)) T.e_o_len.bd rfl T.b_len) dl_nil))))))))))
theorem sc_edge : FnScope ["_law_kind_here", "_law_spot"] ["_law_kind_here", "_law_spot"] (defScope s_edge) := ⟨rfl, rfl, rfl, by decide +kernel, rfl, by decide +kernel, by decide +kernel⟩
theorem ok_edge [mm : Memo] [Triv mm] [Still mm] (T : TX Memo.C K mg) : FnG P w K mg base CX0 1 T.e_edge.f T.e_edge.fd ["_law_kind_here", "_law_spot"] (spD K 2 m_edge) :=
  okG (k := 0) (n := 2) (m := 0) (Pn := []) T.e_edge.fn sc_edge rfl rfl (by decide) fun cdv A outer s H E hgd hr => by
    have hu := hr.units
    have hu2 := room128 hr
    exact (dss_one (ds_ret (de_min2 rfl rfl T.b_min (do_ex (de_add (do_ex (de_add (do_nm 1) (do_ex (de_ix (do_nm 0) (do_ex de_int))))) (do_ex (de_ix (do_nm 0) (do_ex de_int))))) (do_ex (de_ix (do_nm 0) (do_ex de_int))))))
theorem sc_turned : FnScope ["_law_kind_here", "_law_content_here", "_law_figure_here", "_law_spot", "_law_times", "_law_full", "_law_low", "_law_moved"] ["_law_kind_here", "_law_content_here", "_law_figure_here", "_law_spot", "_law_times"] (defScope s_turned) := ⟨rfl, rfl, rfl, by decide +kernel, rfl, by decide +kernel, by decide +kernel⟩
theorem ok_turned [mm : Memo] [Triv mm] [Still mm] (T : TX Memo.C K mg) : FnG P w K mg base CX0 2 T.e_turned.f T.e_turned.fd ["_law_kind_here", "_law_content_here", "_law_figure_here", "_law_spot", "_law_times"] (spD K 5 m_turned) :=
  okG (k := 1) (n := 5) (m := 3) (Pn := []) T.e_turned.fn sc_turned rfl rfl (by decide) fun cdv A outer s H E hgd hr => by
    have hu := hr.units
    have hu2 := room128 hr
    exact (dss_cons (ds_set sc_turned.nd rfl (by first | exact Or.inl rfl | exact Or.inr rfl) (de_call hgd (ok_tens T) (hr.mono (by decide)) rfl T.e_tens.mg T.e_tens.kp T.e_tens.bd (da_ex (de_call hgd (ok_edge T) (hr.mono (by decide)) rfl T.e_edge.mg T.e_edge.kp T.e_edge.bd (da_ex (de_name 0) (da_ex (de_name 3) da_nil))) da_nil)))
    (dss_cons (ds_set sc_turned.nd rfl (by first | exact Or.inl rfl | exact Or.inr rfl) (de_mod (do_ex (de_int1 rfl T.b_int (do_nm 1))) (do_nm 5)))
    (dss_cons (ds_set sc_turned.nd rfl (by first | exact Or.inl rfl | exact Or.inr rfl) (de_add (do_nm 6) (do_ex (de_mul (do_ex (de_mul (do_nm 4) (do_nm 2))) (do_ex (de_call hgd (ok_tens T) (hr.mono (by decide)) rfl T.e_tens.mg T.e_tens.kp T.e_tens.bd (da_ex (de_name 3) da_nil)))))))
    (dss_one (ds_ret (de_tup (dl_one (de_add (do_ex (de_sub (do_nm 1) (do_nm 6))) (do_ex (de_mod (do_ex (de_int1 rfl T.b_int (do_nm 7))) (do_nm 5)))) (dl_one (de_abs rfl T.b_abs (do_ex (de_fdiv (do_nm 7) (do_nm 5)))) dl_nil))))))))
theorem sc_state : FnScope ["_law_kind_here", "_law_calls", "_law_content_here", "_law_figure_here", "_law_spot", "_law_rung", "_law_wheels", "_law_call_here", "_law_lost"] ["_law_kind_here", "_law_calls"] (defScope s_state) := ⟨rfl, rfl, rfl, by decide +kernel, rfl, by decide +kernel, by decide +kernel⟩
theorem ok_state [mm : Memo] [Triv mm] [Still mm] (T : TX Memo.C K mg) : FnG P w K mg base CX0 3 T.e_state.f T.e_state.fd ["_law_kind_here", "_law_calls"] (spD K 2 m_state) :=
  okG (k := 2) (n := 2) (m := 7) (Pn := []) T.e_state.fn sc_state rfl rfl (by decide) fun cdv A outer s H E hgd hr => by
    have hu := hr.units
    have hu2 := room128 hr
    exact (dss_cons (ds_asg (de_tup (dl_one de_int (dl_one de_int (dl_one de_int (dl_one de_int dl_nil))))) (dg_tup rfl (dgs_cons (dg_name sc_state.nd rfl (by first | exact Or.inl rfl | exact Or.inr rfl)) (dgs_cons (dg_name sc_state.nd rfl (by first | exact Or.inl rfl | exact Or.inr rfl)) (dgs_cons (dg_name sc_state.nd rfl (by first | exact Or.inl rfl | exact Or.inr rfl)) (dgs_cons (dg_name sc_state.nd rfl (by first | exact Or.inl rfl | exact Or.inr rfl)) dgs_nil)))) (tgCons_len (tgCons_len (tgCons_len (tgCons_len tgNil_len))))))
    (dss_cons (ds_set sc_state.nd rfl (by first | exact Or.inl rfl | exact Or.inr rfl) (de_mul (do_ex (de_lst (dl_one de_int dl_nil))) (do_ex (de_add (do_ex (de_sub (do_ex (de_ix (do_nm 0) (do_ex de_int))) (do_ex (de_ix (do_nm 0) (do_ex de_int))))) (do_ex de_int)))))
    (dss_cons (ds_for PassesOwn.never rfl (di_seq (de_name 1)) (dg_name sc_state.nd rfl (by first | exact Or.inl rfl | exact Or.inr rfl))
    (dss_one (ds_if (dt_eq hu (do_ex (de_ix (do_nm 7) (do_ex de_int))) (do_ex de_str)) (dss_one (ds_set sc_state.nd rfl (by first | exact Or.inl rfl | exact Or.inr rfl) (de_ix (do_nm 7) (do_ex de_int)))) (dss_one (ds_if (dt_eq hu (do_ex (de_ix (do_nm 7) (do_ex de_int))) (do_ex de_str)) (dss_one (ds_set sc_state.nd rfl (by first | exact Or.inl rfl | exact Or.inr rfl) (de_ix (do_nm 7) (do_ex de_int)))) (dss_one (ds_if (dt_eq hu (do_ex (de_ix (do_nm 7) (do_ex de_int))) (do_ex de_str)) (dss_cons (ds_asg (de_call hgd (ok_turned T) (hr.mono (by decide)) rfl T.e_turned.mg T.e_turned.kp T.e_turned.bd (da_ex (de_name 0) (da_ex (de_name 2) (da_ex (de_name 3) (da_ex (de_name 4) (da_ex (de_ix (do_nm 7) (do_ex de_int)) da_nil)))))) (dg_tup rfl (dgs_cons (dg_name sc_state.nd rfl (by first | exact Or.inl rfl | exact Or.inr rfl)) (dgs_cons (dg_name sc_state.nd rfl (by first | exact Or.inl rfl | exact Or.inr rfl)) dgs_nil)) (tgCons_len (tgCons_len tgNil_len))))
    (dss_cons (ds_sto 6 (de_mod (do_ex (de_int1 rfl T.b_int (do_ex (de_add (do_ex (de_ix (do_nm 6) (do_nm 4))) (do_ex (de_ix (do_nm 7) (do_ex de_int))))))) (do_ex de_int)) (de_name 4))
    (dss_one (ds_set sc_state.nd rfl (by first | exact Or.inl rfl | exact Or.inr rfl) (de_add (do_nm 5) (do_nm 8)))))) (dss_one (ds_if (dt_eq hu (do_ex (de_ix (do_nm 7) (do_ex de_int))) (do_ex de_str)) (dss_one (ds_set sc_state.nd rfl (by first | exact Or.inl rfl | exact Or.inr rfl) de_int)) (dss_one (ds_set sc_state.nd rfl (by first | exact Or.inl rfl | exact Or.inr rfl) (de_mul (do_ex (de_lst (dl_one de_int dl_nil))) (do_ex (de_len rfl T.b_len (do_nm 6)))))))))))))))
    (dss_one (ds_ret (de_tup (dl_one (de_name 2) (dl_one (de_name 6) (dl_one (de_name 3) (dl_one (de_name 4) (dl_one (de_name 5) dl_nil)))))))))))
theorem sc_due : FnScope ["_law_kind_here", "_law_calls"] ["_law_kind_here", "_law_calls"] (defScope s_due) := ⟨rfl, rfl, rfl, by decide +kernel, rfl, by decide +kernel, by decide +kernel⟩
theorem ok_due [mm : Memo] [Triv mm] [Still mm] (T : TX Memo.C K mg) : FnG P w K mg base CX0 4 T.e_due.f T.e_due.fd ["_law_kind_here", "_law_calls"] (spD K 2 m_due) :=
  okG (k := 3) (n := 2) (m := 0) (Pn := []) T.e_due.fn sc_due rfl rfl (by decide) fun cdv A outer s H E hgd hr => by
    have hu := hr.units
    have hu2 := room128 hr
    exact (dss_one (ds_ret (de_repr hgd hu2 rfl T.b_repr (do_ex (de_add (do_ex (de_list1 rfl T.b_list (do_ex (de_call hgd (ok_state T) (hr.mono (by decide)) rfl T.e_state.mg T.e_state.kp T.e_state.bd (da_ex (de_name 0) (da_ex (de_name 1) da_nil)))))) (do_ex (de_lst (dl_one (de_name 1) (dl_one (de_len rfl T.b_len (do_nm 1)) dl_nil)))))))))
theorem sc_o_undo : FnScope ["self"] ["self"] (defScope s_o_undo) := ⟨rfl, rfl, rfl, by decide +kernel, rfl, by decide +kernel, by decide +kernel⟩
theorem ok_o_undo [mm : Memo] [Triv mm] [Still mm] (T : TX Memo.C K mg) : FnG P w K mg base CX0 1 T.e_o_undo.f T.e_o_undo.fd ["self"] (spD K 1 m_o_undo) :=
  okG (k := 0) (n := 1) (m := 0) (Pn := [0]) T.e_o_undo.fn sc_o_undo rfl rfl (by decide) fun cdv A outer s H E hgd hr => by
    have hu := hr.units
    have hu2 := room128 hr
    exact (dss_cons (ds_if (dt_eq hu (do_ex (de_fld 0 T.cl T.n_kept_calls)) (do_ex (de_lst dl_nil))) (dss_one ds_stuck) dss_nil)
    (dss_one (ds_fld 0 T.cl T.n_kept_calls (de_sl (do_ex (de_fld 0 T.cl T.n_kept_calls)) dp_none (dp_some (de_neg (do_ex de_int)))))))
abbrev n_longer_right : List Str := ["_law_stock_here", "_law_two", "_law_kind_here", "_law_calls", "_law_one_here", "_law_turn", "_law_three", "_law_left"]
theorem sc_longer_right : FnScope ["_law_stock_here", "_law_two", "_law_kind_here", "_law_calls", "_law_one_here", "_law_turn", "_law_three", "_law_left"] ["_law_stock_here", "_law_two", "_law_kind_here", "_law_calls"] (defScope s_longer_right) := ⟨rfl, rfl, rfl, by decide +kernel, rfl, by decide +kernel, by decide +kernel⟩
theorem ok_longer_right [mm : Memo] [Triv mm] [Still mm] (T : TX Memo.C K mg) : FnG P w K mg base CX0 8 T.e_longer_right.f T.e_longer_right.fd ["_law_stock_here", "_law_two", "_law_kind_here", "_law_calls"] (spD K 4 m_longer_right) :=
  okG (k := 7) (n := 4) (m := 4) (Pn := [0, 1]) T.e_longer_right.fn sc_longer_right rfl rfl (by decide) fun cdv A outer s H E hgd hr => by
    have hu := hr.units
    have hu2 := room128 hr
    exact (dss_cons (ds_par rfl sc_longer_right.nd rfl rfl (by decide) rfl rfl (des_cons (de_meth0 1 hgd T.cl T.e_o_fork.mt (ok_o_fork T) (hr.mono (by decide)) T.e_o_fork.bd) (des_cons (de_list1 rfl T.b_list (do_nm 3)) des_nil)) rfl)
    (dss_cons (ds_for PassesOwn.never rfl (di_range1 de_int rfl T.b_range) (dg_name sc_longer_right.nd rfl (by first | exact Or.inl rfl | exact Or.inr rfl))
    (dss_cons (ds_expr (de_app 3 (de_call hgd (ok_next T) (hr.mono (by decide)) rfl T.e_next.mg T.e_next.kp T.e_next.bd (da_io 0 (da_ex (de_name 2) (da_ex de_int da_nil))))))
    (dss_one (ds_if (dt_not (dt_val (de_call hgd (ok_call T) (hr.mono (by decide)) rfl T.e_call.mg T.e_call.kp T.e_call.bd (da_io 4 (da_ex (de_ix (do_nm 3) (do_ex (de_neg (do_ex de_int)))) da_nil))))) (dss_one (ds_ret de_bl)) dss_nil))))
    (dss_cons (ds_if (dt_w (dw_or (dt_ne hu (do_ex (de_lenO 4 hgd T.e_o_len.mt (ok_o_len T) (hr.mono (by decide)) T.e_o_len.bd rfl T.b_len)) (do_ex de_int)) (dw_or1 (dt_ne hu (do_ex (de_call hgd (ok_told T) (hr.mono (by decide)) rfl T.e_told.mg T.e_told.kp T.e_told.bd (da_io 4 da_nil))) (do_ex (de_hide (de_lend [3] (de_call hgd (ok_due T) (hr.mono (by decide)) rfl T.e_due.mg T.e_due.kp T.e_due.bd (da_ex (de_name 2) (da_ex (de_name 3) da_nil)))))))))) (dss_one (ds_ret de_bl)) dss_nil)
    (dss_cons (ds_set sc_longer_right.nd rfl (by first | exact Or.inl rfl | exact Or.inr rfl) (de_meth0 4 hgd T.cl T.e_o_fork.mt (ok_o_fork T) (hr.mono (by decide)) T.e_o_fork.bd))
    (dss_cons (ds_if (dt_w (dw_or (dt_ne hu (do_ex (de_lc (own := [("_law_turn", 5)]) (n := 8) rfl sc_longer_right.nd (di_range1 de_int rfl T.b_range) (blkOk_by (N := n_longer_right) (sc := defScope s_longer_right) (by decide +kernel)) (fun _ _ _ _ _ => (dg_name sc_longer_right.nd rfl (by first | exact Or.inl rfl | exact Or.inr rfl))) tgN_keep (fun _ _ _ _ _ => (dts_one (dt_isn (do_ex (de_meth0 6 hgd T.cl T.e_o_undo.mt (ok_o_undo T) (hr.mono (by decide)) T.e_o_undo.bd)) (do_ex de_non)))) (fun _ _ _ _ _ => de_int))) (do_ex (de_lst dl_nil))) (dw_or1 (dt_ne hu (do_ex (de_call hgd (ok_told T) (hr.mono (by decide)) rfl T.e_told.mg T.e_told.kp T.e_told.bd (da_io 6 da_nil))) (do_ex (de_call hgd (ok_due T) (hr.mono (by decide)) rfl T.e_due.mg T.e_due.kp T.e_due.bd (da_ex (de_name 2) (da_ex (de_lst dl_nil) da_nil)))))))) (dss_one (ds_ret de_bl)) dss_nil)
    (dss_cons (ds_for PassesOwn.never rfl (di_range3 de_int de_int (de_neg (do_ex de_int)) rfl T.b_range) (dg_name sc_longer_right.nd rfl (by first | exact Or.inl rfl | exact Or.inr rfl))
    (dss_one (ds_if (dt_w (dw_or (dt_isn (do_ex (de_meth0 4 hgd T.cl T.e_o_undo.mt (ok_o_undo T) (hr.mono (by decide)) T.e_o_undo.bd)) (do_ex de_non)) (dw_or1 (dt_ne hu (do_ex (de_lenO 4 hgd T.e_o_len.mt (ok_o_len T) (hr.mono (by decide)) T.e_o_len.bd rfl T.b_len)) (do_nm 7))))) (dss_one (ds_ret de_bl)) dss_nil)))
    (dss_one (ds_ret (de_and (de_eq hu (do_ex (de_call hgd (ok_told T) (hr.mono (by decide)) rfl T.e_told.mg T.e_told.kp T.e_told.bd (da_io 4 da_nil))) (do_ex (de_call hgd (ok_due T) (hr.mono (by decide)) rfl T.e_due.mg T.e_due.kp T.e_due.bd (da_ex (de_name 2) (da_ex (de_sl (do_nm 3) dp_none (dp_some de_int)) da_nil))))) (de_one (de_eq hu (do_ex (de_lenO 1 hgd T.e_o_len.mt (ok_o_len T) (hr.mono (by decide)) T.e_o_len.bd rfl T.b_len)) (do_ex de_int))))))))))))
abbrev n_hundred_right : List Str := ["_law_stock_here", "_law_kind_here", "_law_one_here", "_law_calls", "_law_turn", "_law_call_here", "_law_two", "_law_spot", "_law_some", "_law_twin", "_law_left"]
theorem sc_hundred_right : FnScope ["_law_stock_here", "_law_kind_here", "_law_one_here", "_law_calls", "_law_turn", "_law_call_here", "_law_two", "_law_spot", "_law_some", "_law_twin", "_law_left"] ["_law_stock_here", "_law_kind_here"] (defScope s_hundred_right) := ⟨rfl, rfl, rfl, by decide +kernel, rfl, by decide +kernel, by decide +kernel⟩
theorem ok_hundred_right [mm : Memo] [Triv mm] [Still mm] (T : TX Memo.C K mg) : FnG P w K mg base CX0 9 T.e_hundred_right.f T.e_hundred_right.fd ["_law_stock_here", "_law_kind_here"] (spD K 2 m_hundred_right) :=
  okG (k := 8) (n := 2) (m := 9) (Pn := [0]) T.e_hundred_right.fn sc_hundred_right rfl rfl (by decide) fun cdv A outer s H E hgd hr => by
    have hu := hr.units
    have hu2 := room128 hr
    exact (dss_cons (ds_parC rfl sc_hundred_right.nd rfl rfl (by first | exact Or.inl rfl | exact Or.inr rfl) (by first | exact Or.inl rfl | exact Or.inr rfl) (des_cons (de_make hgd T.e_o_init.make (ok_o_init T) (hr.mono (by decide)) rfl T.c_own T.e_o_init.bd (da_ex (de_name 1) da_nil)) (des_cons (de_lc (own := [("_law_turn", 4)]) (n := 11) rfl sc_hundred_right.nd (di_range1 de_int rfl T.b_range) (blkOk_by (N := n_hundred_right) (sc := defScope s_hundred_right) (by decide +kernel)) (fun _ _ _ _ _ => (dg_name sc_hundred_right.nd rfl (by first | exact Or.inl rfl | exact Or.inr rfl))) tgN_keep (fun _ _ _ _ _ => dts_nil) (fun _ _ _ _ _ => (de_call hgd (ok_next T) (hr.mono (by decide)) rfl T.e_next.mg T.e_next.kp T.e_next.bd (da_io 0 (da_ex (de_name 1) (da_ex de_int da_nil)))))) des_nil)) (by first | exact Or.inl rfl | exact Or.inr rfl) (by first | exact Or.inl rfl | exact Or.inr rfl))
    (dss_cons (ds_if (dt_ne hu (do_ex (de_lc (own := [("_law_call_here", 5)]) (n := 11) rfl sc_hundred_right.nd (di_seq (de_name 3)) (blkOk_by (N := n_hundred_right) (sc := defScope s_hundred_right) (by decide +kernel)) (fun _ _ _ _ _ => (dg_name sc_hundred_right.nd rfl (by first | exact Or.inl rfl | exact Or.inr rfl))) tgN_keep (fun _ _ _ _ _ => (dts_one (dt_not (dt_val (de_call hgd (ok_call T) (hr.mono (by decide)) rfl T.e_call.mg T.e_call.kp T.e_call.bd (da_io 2 (da_ex (de_name 5) da_nil))))))) (fun _ _ _ _ _ => (de_name 5)))) (do_ex (de_lst dl_nil))) (dss_one (ds_ret de_bl)) dss_nil)
    (dss_cons (ds_set sc_hundred_right.nd rfl (by first | exact Or.inl rfl | exact Or.inr rfl) (de_meth0 2 hgd T.cl T.e_o_fork.mt (ok_o_fork T) (hr.mono (by decide)) T.e_o_fork.bd))
    (dss_cons (ds_for PassesOwn.never rfl (di_seq (de_tup (dl_one de_non (dl_one de_int (dl_one (de_call hgd (ok_draw T) (hr.mono (by decide)) rfl T.e_draw.mg T.e_draw.kp T.e_draw.bd (da_io 0 (da_ex de_int da_nil))) dl_nil))))) (dg_name sc_hundred_right.nd rfl (by first | exact Or.inl rfl | exact Or.inr rfl))
    (dss_cons (ds_parC rfl sc_hundred_right.nd rfl rfl (by first | exact Or.inl rfl | exact Or.inr rfl) (by first | exact Or.inl rfl | exact Or.inr rfl) (des_cons (de_list1 rfl T.b_list (do_nm 3)) (des_cons (de_make hgd T.e_o_init.make (ok_o_init T) (hr.mono (by decide)) rfl T.c_own T.e_o_init.bd (da_ex (de_name 1) da_nil)) des_nil)) (by first | exact Or.inl rfl | exact Or.inr rfl) (by first | exact Or.inl rfl | exact Or.inr rfl))
    (dss_cons (ds_if (dt_isn (do_nm 7) (do_ex de_non)) (dss_one (ds_sto 8 (de_tup (dl_one de_str (dl_one (de_add (do_ex de_int) (do_nm 7)) dl_nil))) (de_name 7))) dss_nil)
    (dss_cons (ds_if (dt_ne hu (do_ex (de_lc (own := [("_law_call_here", 5)]) (n := 11) rfl sc_hundred_right.nd (di_seq (de_name 8)) (blkOk_by (N := n_hundred_right) (sc := defScope s_hundred_right) (by decide +kernel)) (fun _ _ _ _ _ => (dg_name sc_hundred_right.nd rfl (by first | exact Or.inl rfl | exact Or.inr rfl))) tgN_keep (fun _ _ _ _ _ => (dts_one (dt_not (dt_val (de_call hgd (ok_call T) (hr.mono (by decide)) rfl T.e_call.mg T.e_call.kp T.e_call.bd (da_io 9 (da_ex (de_name 5) da_nil))))))) (fun _ _ _ _ _ => (de_name 5)))) (do_ex (de_lst dl_nil))) (dss_one (ds_ret de_bl)) dss_nil)
    (dss_one (ds_if (dt_ne hu (do_ex (de_repr hgd hu2 rfl T.b_repr (do_ex (de_lst (dl_one (de_eqG hgd hu T.cl T.e_o_eq.mt T.eqc (ok_o_eq T) (hr.mono (by decide)) T.e_o_eq.bd (eo_nm 2) (eo_nm 9)) (dl_one (de_eqG hgd hu T.cl T.e_o_eq.mt T.eqc (ok_o_eq T) (hr.mono (by decide)) T.e_o_eq.bd (eo_nm 9) (eo_nm 6)) dl_nil)))))) (do_ex (de_repr hgd hu2 rfl T.b_repr (do_ex (de_mul (do_ex (de_lst (dl_one (de_is (do_nm 7) (do_ex de_non)) dl_nil))) (do_ex de_int)))))) (dss_one (ds_ret de_bl)) dss_nil))))))
    (dss_cons (ds_if (dt_not (dt_val (de_call hgd (ok_longer_right T) (hr.mono (by decide)) rfl T.e_longer_right.mg T.e_longer_right.kp T.e_longer_right.bd (da_io 0 (da_io 6 (da_ex (de_name 1) (da_ex (de_name 3) da_nil))))))) (dss_one (ds_ret de_bl)) dss_nil)
    (dss_cons (ds_for PassesOwn.never rfl (di_range3 de_int (de_neg (do_ex de_int)) (de_neg (do_ex de_int)) rfl T.b_range) (dg_name sc_hundred_right.nd rfl (by first | exact Or.inl rfl | exact Or.inr rfl))
    (dss_cons (ds_if (dt_w (dw_or (dt_isn (do_ex (de_meth0 2 hgd T.cl T.e_o_undo.mt (ok_o_undo T) (hr.mono (by decide)) T.e_o_undo.bd)) (do_ex de_non)) (dw_or1 (dt_ne hu (do_ex (de_lenO 2 hgd T.e_o_len.mt (ok_o_len T) (hr.mono (by decide)) T.e_o_len.bd rfl T.b_len)) (do_nm 10))))) (dss_one (ds_ret de_bl)) dss_nil)
    (dss_one (ds_if (dt_w (dw_and (dt_eq hu (do_ex (de_mod (do_ex (de_int1 rfl T.b_int (do_nm 10))) (do_ex de_int))) (do_ex de_int)) (dw_and1 (dt_ne hu (do_ex (de_call hgd (ok_told T) (hr.mono (by decide)) rfl T.e_told.mg T.e_told.kp T.e_told.bd (da_io 2 da_nil))) (do_ex (de_call hgd (ok_due T) (hr.mono (by decide)) rfl T.e_due.mg T.e_due.kp T.e_due.bd (da_ex (de_name 1) (da_ex (de_sl (do_nm 3) dp_none (dp_some (de_name 10))) da_nil)))))))) (dss_one (ds_ret de_bl)) dss_nil))))
    (dss_cons (ds_if (dt_w (dw_or (dt_neG hgd hu T.e_o_eq.mt T.eqc (ok_o_eq T) (hr.mono (by decide)) T.e_o_eq.bd (eo_nm 2) (eo_nw (de_make hgd T.e_o_init.make (ok_o_init T) (hr.mono (by decide)) rfl T.c_own T.e_o_init.bd (da_ex (de_name 1) da_nil)))) (dw_or (dt_eqG hgd hu T.cl T.e_o_eq.mt T.eqc (ok_o_eq T) (hr.mono (by decide)) T.e_o_eq.bd (eo_nm 2) (eo_nm 6)) (dw_or1 (dt_ne hu (do_ex (de_call hgd (ok_told T) (hr.mono (by decide)) rfl T.e_told.mg T.e_told.kp T.e_told.bd (da_io 6 da_nil))) (do_ex (de_call hgd (ok_due T) (hr.mono (by decide)) rfl T.e_due.mg T.e_due.kp T.e_due.bd (da_ex (de_name 1) (da_ex (de_name 3) da_nil))))))))) (dss_one (ds_ret de_bl)) dss_nil)
    (dss_cons (ds_for PassesOwn.never rfl (di_range3 de_int de_int (de_neg (do_ex de_int)) rfl T.b_range) (dg_name sc_hundred_right.nd rfl (by first | exact Or.inl rfl | exact Or.inr rfl))
    (dss_one (ds_if (dt_w (dw_or (dt_isn (do_ex (de_meth0 6 hgd T.cl T.e_o_undo.mt (ok_o_undo T) (hr.mono (by decide)) T.e_o_undo.bd)) (do_ex de_non)) (dw_or1 (dt_ne hu (do_ex (de_lenO 6 hgd T.e_o_len.mt (ok_o_len T) (hr.mono (by decide)) T.e_o_len.bd rfl T.b_len)) (do_nm 10))))) (dss_one (ds_ret de_bl)) dss_nil)))
    (dss_one (ds_ret (de_eq hu (do_ex (de_call hgd (ok_told T) (hr.mono (by decide)) rfl T.e_told.mg T.e_told.kp T.e_told.bd (da_io 6 da_nil))) (do_ex (de_call hgd (ok_due T) (hr.mono (by decide)) rfl T.e_due.mg T.e_due.kp T.e_due.bd (da_ex (de_name 1) (da_ex (de_sl (do_nm 3) dp_none (dp_some de_int)) da_nil)))))))))))))))
theorem sc_stepped : FnScope ["_law_stock_here", "_law_one_here", "_law_kind_here", "_law_calls", "_law_call_here"] ["_law_stock_here", "_law_one_here", "_law_kind_here", "_law_calls"] (defScope s_stepped) := ⟨rfl, rfl, rfl, by decide +kernel, rfl, by decide +kernel, by decide +kernel⟩
theorem ok_stepped [mm : Memo] [Triv mm] [Still mm] (T : TX Memo.C K mg) : FnG P w K mg base CX0 6 T.e_stepped.f T.e_stepped.fd ["_law_stock_here", "_law_one_here", "_law_kind_here", "_law_calls"] (spD K 4 m_stepped) :=
  okG (k := 5) (n := 4) (m := 1) (Pn := [0, 1]) T.e_stepped.fn sc_stepped rfl rfl (by decide) fun cdv A outer s H E hgd hr => by
    have hu := hr.units
    have hu2 := room128 hr
    exact (dss_cons (ds_if (dt_w (dw_and (dt_ne hu (do_nm 3) (do_ex (de_lst dl_nil))) (dw_and1 (dt_eq hu (do_ex (de_call hgd (ok_draw T) (hr.mono (by decide)) rfl T.e_draw.mg T.e_draw.kp T.e_draw.bd (da_io 0 (da_ex de_int da_nil)))) (do_ex de_int))))) (dss_one (ds_ret (de_if (dt_is (do_ex (de_meth0 1 hgd T.cl T.e_o_undo.mt (ok_o_undo T) (hr.mono (by decide)) T.e_o_undo.bd)) (do_ex de_non)) (de_sl (do_nm 3) dp_none (dp_some (de_neg (do_ex de_int)))) de_non))) dss_nil)
    (dss_cons (ds_set sc_stepped.nd rfl (by first | exact Or.inl rfl | exact Or.inr rfl) (de_call hgd (ok_next T) (hr.mono (by decide)) rfl T.e_next.mg T.e_next.kp T.e_next.bd (da_io 0 (da_ex (de_name 2) (da_ex (de_pow (do_ex de_int) (do_ex de_int)) da_nil)))))
    (dss_one (ds_ret (de_if (dt_val (de_call hgd (ok_call T) (hr.mono (by decide)) rfl T.e_call.mg T.e_call.kp T.e_call.bd (da_io 1 (da_ex (de_name 4) da_nil)))) (de_add (do_nm 3) (do_ex (de_lst (dl_one (de_name 4) dl_nil)))) de_non)))))
theorem okr_o_log {C0 : Addr} (T : TX C0 K mg) : FnG P w K mg base CX0 1 T.e_o_log.f T.e_o_log.fd ["self"] (@spD (memoR C0 K) K 1 r_o_log) := by
  letI mm : Memo := memoR C0 K
  haveI : Triv mm := inferInstanceAs (Triv (memoR C0 K))
  haveI : Still mm := inferInstanceAs (Still (memoR C0 K))
  exact okG (k := 0) (n := 1) (m := 1) (Pn := [0]) T.e_o_log.fn sc_o_log rfl rfl (by decide) fun cdv A outer s H E hgd hr => by
    have hu := hr.units
    have hu2 := room128 hr
    exact (dss_one (ds_ret (de_lc (own := [("row", 1)]) (n := 2) rfl sc_o_log.nd (di_seq (de_fldR 0 T.cl T.n_kept_calls)) (blkOk_by (N := n_o_log) (sc := defScope s_o_log) (by decide +kernel)) (fun _ _ _ _ _ => (dg_name sc_o_log.nd rfl (by first | exact Or.inl rfl | exact Or.inr rfl))) tgN_keep (fun _ _ _ _ _ => dts_nil) (fun _ _ _ _ _ => (de_ix (do_nm 1) (do_ex de_int))))))
theorem okr_o_state_now {C0 : Addr} (T : TX C0 K mg) : FnG P w K mg base CX0 2 T.e_o_state_now.f T.e_o_state_now.fd ["self"] (@spD (memoR C0 K) K 1 r_o_state_now) := by
  letI mm : Memo := memoR C0 K
  haveI : Triv mm := inferInstanceAs (Triv (memoR C0 K))
  haveI : Still mm := inferInstanceAs (Still (memoR C0 K))
  exact okG (k := 1) (n := 1) (m := 0) (Pn := [0]) T.e_o_state_now.fn sc_o_state_now rfl rfl (by decide) fun cdv A outer s H E hgd hr => by
    have hu := hr.units
    have hu2 := room128 hr
    exact (dss_cons (ds_if (dt_eq hu (do_ex (de_fldR 0 T.cl T.n_kept_calls)) (do_ex (de_lst dl_nil))) (dss_one (ds_ret (de_tup (dl_one de_int (dl_one (de_mul (do_ex (de_lst (dl_one de_int dl_nil))) (do_ex (de_call hgd (ok_places_of T) (hr.mono (by decide)) rfl T.e_places_of.mg T.e_places_of.kp T.e_places_of.bd (da_ex (de_fldR 0 T.cl T.n_kept_machine) da_nil)))) (dl_one de_int (dl_one de_int (dl_one de_int dl_nil)))))))) dss_nil)
    (dss_one (ds_ret (de_sl (do_ex (de_ix (do_ex (de_fldR 0 T.cl T.n_kept_calls)) (do_ex (de_neg (do_ex de_int))))) (dp_some de_int) dp_none))))
theorem okr_o_display {C0 : Addr} (T : TX C0 K mg) : FnG P w K mg base CX0 3 T.e_o_display.f T.e_o_display.fd ["self"] (@spD (memoR C0 K) K 1 r_o_display) := by
  letI mm : Memo := memoR C0 K
  haveI : Triv mm := inferInstanceAs (Triv (memoR C0 K))
  haveI : Still mm := inferInstanceAs (Still (memoR C0 K))
  exact okG (k := 2) (n := 1) (m := 0) (Pn := [0]) T.e_o_display.fn sc_o_display rfl rfl (by decide) fun cdv A outer s H E hgd hr => by
    have hu := hr.units
    have hu2 := room128 hr
    exact (dss_one (ds_ret (de_ix (do_ex (de_methR 0 hgd T.cl T.e_o_state_now.mt (okr_o_state_now T) (hr.mono (by decide)) T.e_o_state_now.bd)) (do_ex de_int))))
theorem okr_o_counter {C0 : Addr} (T : TX C0 K mg) : FnG P w K mg base CX0 3 T.e_o_counter.f T.e_o_counter.fd ["self"] (@spD (memoR C0 K) K 1 r_o_counter) := by
  letI mm : Memo := memoR C0 K
  haveI : Triv mm := inferInstanceAs (Triv (memoR C0 K))
  haveI : Still mm := inferInstanceAs (Still (memoR C0 K))
  exact okG (k := 2) (n := 1) (m := 0) (Pn := [0]) T.e_o_counter.fn sc_o_counter rfl rfl (by decide) fun cdv A outer s H E hgd hr => by
    have hu := hr.units
    have hu2 := room128 hr
    exact (dss_one (ds_ret (de_list1 rfl T.b_list (do_ex (de_ix (do_ex (de_methR 0 hgd T.cl T.e_o_state_now.mt (okr_o_state_now T) (hr.mono (by decide)) T.e_o_state_now.bd)) (do_ex de_int))))))
theorem okr_o_setting {C0 : Addr} (T : TX C0 K mg) : FnG P w K mg base CX0 3 T.e_o_setting.f T.e_o_setting.fd ["self"] (@spD (memoR C0 K) K 1 r_o_setting) := by
  letI mm : Memo := memoR C0 K
  haveI : Triv mm := inferInstanceAs (Triv (memoR C0 K))
  haveI : Still mm := inferInstanceAs (Still (memoR C0 K))
  exact okG (k := 2) (n := 1) (m := 0) (Pn := [0]) T.e_o_setting.fn sc_o_setting rfl rfl (by decide) fun cdv A outer s H E hgd hr => by
    have hu := hr.units
    have hu2 := room128 hr
    exact (dss_one (ds_ret (de_ix (do_ex (de_methR 0 hgd T.cl T.e_o_state_now.mt (okr_o_state_now T) (hr.mono (by decide)) T.e_o_state_now.bd)) (do_ex de_int))))
theorem okr_o_place {C0 : Addr} (T : TX C0 K mg) : FnG P w K mg base CX0 3 T.e_o_place.f T.e_o_place.fd ["self"] (@spD (memoR C0 K) K 1 r_o_place) := by
  letI mm : Memo := memoR C0 K
  haveI : Triv mm := inferInstanceAs (Triv (memoR C0 K))
  haveI : Still mm := inferInstanceAs (Still (memoR C0 K))
  exact okG (k := 2) (n := 1) (m := 0) (Pn := [0]) T.e_o_place.fn sc_o_place rfl rfl (by decide) fun cdv A outer s H E hgd hr => by
    have hu := hr.units
    have hu2 := room128 hr
    exact (dss_one (ds_ret (de_ix (do_ex (de_methR 0 hgd T.cl T.e_o_state_now.mt (okr_o_state_now T) (hr.mono (by decide)) T.e_o_state_now.bd)) (do_ex de_int))))
theorem okr_o_bells {C0 : Addr} (T : TX C0 K mg) : FnG P w K mg base CX0 3 T.e_o_bells.f T.e_o_bells.fd ["self"] (@spD (memoR C0 K) K 1 r_o_bells) := by
  letI mm : Memo := memoR C0 K
  haveI : Triv mm := inferInstanceAs (Triv (memoR C0 K))
  haveI : Still mm := inferInstanceAs (Still (memoR C0 K))
  exact okG (k := 2) (n := 1) (m := 0) (Pn := [0]) T.e_o_bells.fn sc_o_bells rfl rfl (by decide) fun cdv A outer s H E hgd hr => by
    have hu := hr.units
    have hu2 := room128 hr
    exact (dss_one (ds_ret (de_ix (do_ex (de_methR 0 hgd T.cl T.e_o_state_now.mt (okr_o_state_now T) (hr.mono (by decide)) T.e_o_state_now.bd)) (do_ex de_int))))
theorem okr_o_len {C0 : Addr} (T : TX C0 K mg) : FnG P w K mg base CX0 1 T.e_o_len.f T.e_o_len.fd ["self"] (@spD (memoR C0 K) K 1 r_o_len) := by
  letI mm : Memo := memoR C0 K
  haveI : Triv mm := inferInstanceAs (Triv (memoR C0 K))
  haveI : Still mm := inferInstanceAs (Still (memoR C0 K))
  exact okG (k := 0) (n := 1) (m := 0) (Pn := [0]) T.e_o_len.fn sc_o_len rfl rfl (by decide) fun cdv A outer s H E hgd hr => by
    have hu := hr.units
    have hu2 := room128 hr
    exact (dss_one (ds_ret (de_len rfl T.b_len (do_ex (de_fldR 0 T.cl T.n_kept_calls)))))
theorem okr_o_eq {C0 : Addr} (T : TX C0 K mg) : FnG P w K mg base CX0 7 T.e_o_eq.f T.e_o_eq.fd ["self", "other"] (@spD (memoR C0 K) K 2 r_o_eq) := by
  letI mm : Memo := memoR C0 K
  haveI : Triv mm := inferInstanceAs (Triv (memoR C0 K))
  haveI : Still mm := inferInstanceAs (Still (memoR C0 K))
  exact okG (k := 6) (n := 2) (m := 0) (Pn := [0, 1]) T.e_o_eq.fn sc_o_eq rfl rfl (by decide) fun cdv A outer s H E hgd hr => by
    have hu := hr.units
    have hu2 := room128 hr
    exact (dss_cons (ds_if (dt_not (dt_val (de_isR 1 T.cl T.eqc rfl T.b_isinstance rfl T.c_own))) (dss_one (ds_ret de_bl)) dss_nil)
    (dss_one (ds_ret (de_eq hu (do_ex (de_tup (dl_one (de_fldR 0 T.cl T.n_kept_machine) (dl_one (de_propR 0 hgd T.cl T.e_o_log.pr (okr_o_log T) (hr.mono (by decide)) T.e_o_log.bd) dl_nil)))) (do_ex (de_tup (dl_one (de_fldR 1 T.cl T.n_kept_machine) (dl_one (de_propR 1 hgd T.cl T.e_o_log.pr (okr_o_log T) (hr.mono (by decide)) T.e_o_log.bd) dl_nil))))))))
theorem okr_told {C0 : Addr} (T : TX C0 K mg) : FnG P w K mg base CX0 5 T.e_told.f T.e_told.fd ["_law_one_here"] (@spD (memoR C0 K) K 1 r_told) := by
  letI mm : Memo := memoR C0 K
  haveI : Triv mm := inferInstanceAs (Triv (memoR C0 K))
  haveI : Still mm := inferInstanceAs (Still (memoR C0 K))
  exact okG (k := 4) (n := 1) (m := 1) (Pn := [0]) T.e_told.fn sc_told rfl rfl (by decide) fun cdv A outer s H E hgd hr => by
    have hu := hr.units
    have hu2 := room128 hr
    exact (dss_cons (ds_set sc_told.nd rfl (by first | exact Or.inl rfl | exact Or.inr rfl) (de_lst (dl_one (de_propR 0 hgd T.cl T.e_o_display.pr (okr_o_display T) (hr.mono (by decide)) T.e_o_display.bd) (dl_one (de_propR 0 hgd T.cl T.e_o_counter.pr (okr_o_counter T) (hr.mono (by decide)) T.e_o_counter.bd) (dl_one (de_propR 0 hgd T.cl T.e_o_setting.pr (okr_o_setting T) (hr.mono (by decide)) T.e_o_setting.bd) (dl_one (de_propR 0 hgd T.cl T.e_o_place.pr (okr_o_place T) (hr.mono (by decide)) T.e_o_place.bd) (dl_one (de_propR 0 hgd T.cl T.e_o_bells.pr (okr_o_bells T) (hr.mono (by decide)) T.e_o_bells.bd) dl_nil)))))))
    (dss_one (ds_ret (de_repr hgd hu2 rfl T.b_repr (do_ex (de_add (do_nm 1) (do_ex (de_lst (dl_one (de_propR 0 hgd T.cl T.e_o_log.pr (okr_o_log T) (hr.mono (by decide)) T.e_o_log.bd) (dl_one (de_lenR 0 hgd T.e_o_len.mt (okr_o_len T) (hr.mono (by decide)) T.e_o_len.bd rfl T.b_len) dl_nil))))))))))
abbrev n_are_right : List Str := ["_law_kind_here", "_law_family", "_law_one_here", "_law_calls", "_law_two", "_law_done"]
theorem sc_are_right : FnScope ["_law_kind_here", "_law_family", "_law_one_here", "_law_calls", "_law_two", "_law_done"] ["_law_kind_here", "_law_family"] (defScope s_are_right) := ⟨rfl, rfl, rfl, by decide +kernel, rfl, by decide +kernel, by decide +kernel⟩
theorem okr_are_right {C0 : Addr} (T : TX C0 K mg) : FnG P w K mg base CX0 8 T.e_are_right.f T.e_are_right.fd ["_law_kind_here", "_law_family"] (@spD (memoR C0 K) K 2 r_are_right) := by
  letI mm : Memo := memoR C0 K
  haveI : Triv mm := inferInstanceAs (Triv (memoR C0 K))
  haveI : Still mm := inferInstanceAs (Still (memoR C0 K))
  exact okG (k := 7) (n := 2) (m := 4) (Pn := [1]) T.e_are_right.fn sc_are_right rfl rfl (by decide) fun cdv A outer s H E hgd hr => by
    have hu := hr.units
    have hu2 := room128 hr
    exact (dss_cons (ds_forG PassesOwn.never rfl sc_are_right.nd rfl rfl (by first | exact Or.inl rfl | exact Or.inr rfl) (by first | exact Or.inl rfl | exact Or.inr rfl) rfl
    (dss_one (ds_if (dt_ne hu (do_ex (de_call hgd (okr_told T) (hr.mono (by decide)) rfl T.e_told.mg T.e_told.kp T.e_told.bd (da_io 2 da_nil))) (do_ex (de_call hgd (ok_due T) (hr.mono (by decide)) rfl T.e_due.mg T.e_due.kp T.e_due.bd (da_ex (de_name 0) (da_ex (de_name 3) da_nil))))) (dss_one (ds_ret de_bl)) dss_nil)) (by first | exact Or.inl rfl | exact Or.inr rfl) (by first | exact Or.inl rfl | exact Or.inr rfl))
    (dss_cons (ds_rowG rfl sc_are_right.nd rfl rfl (by first | exact Or.inl rfl | exact Or.inr rfl) (by first | exact Or.inl rfl | exact Or.inr rfl) rfl (de_neg (do_ex de_int)) (by first | exact Or.inl rfl | exact Or.inr rfl) (by first | exact Or.inl rfl | exact Or.inr rfl))
    (dss_one (ds_ret (de_eq hu (do_ex (de_lcG (n := 6) rfl sc_are_right.nd rfl (blkOk_by (N := n_are_right) (sc := defScope s_are_right) (by decide +kernel)) (fun _ _ _ _ _ => pg_lst rfl (pgs_cons (pg_name sc_are_right.nd rfl (by first | exact Or.inl rfl | exact Or.inr rfl)) (pgs_cons (pg_name sc_are_right.nd rfl (by first | exact Or.inl rfl | exact Or.inr rfl)) pgs_nil)))
      (fun _ _ _ _ _ => (de_repr hgd hu2 rfl T.b_repr (do_ex (de_eqR 2 4 hgd hu T.cl T.e_o_eq.mt T.eqc (okr_o_eq T) (hr.mono (by decide)) T.e_o_eq.bd))))))
      (do_ex (de_lcG (n := 6) rfl sc_are_right.nd rfl (blkOk_by (N := n_are_right) (sc := defScope s_are_right) (by decide +kernel)) (fun _ _ _ _ _ => pg_lst rfl (pgs_cons (pg_name sc_are_right.nd rfl (by first | exact Or.inl rfl | exact Or.inr rfl)) (pgs_cons (pg_name sc_are_right.nd rfl (by first | exact Or.inl rfl | exact Or.inr rfl)) pgs_nil)))
      (fun _ _ _ _ _ => (de_repr hgd hu2 rfl T.b_repr (do_ex (de_eq hu (do_nm 3) (do_nm 5))))))))))))
theorem sc_right : FnScope ["_law_stock_here", "_law_kind_here", "_law_count", "_law_one_here", "_law_calls", "_law_turn", "_law_family", "_law_row"] ["_law_stock_here", "_law_kind_here", "_law_count"] (defScope s_right) := ⟨rfl, rfl, rfl, by decide +kernel, rfl, by decide +kernel, by decide +kernel⟩
theorem ok_right {C0 : Addr} (T : TX C0 K mg) : FnG P w K mg base CX0 9 T.e_right.f T.e_right.fd ["_law_stock_here", "_law_kind_here", "_law_count"] (@spD (plainAt C0) K 3 m_right) := by
  letI mm : Memo := plainAt C0
  haveI : Triv mm := inferInstanceAs (Triv (plainAt C0))
  haveI : Still mm := inferInstanceAs (Still (plainAt C0))
  exact okG (k := 8) (n := 3) (m := 5) (Pn := [0]) T.e_right.fn sc_right rfl rfl (by decide) fun cdv A outer s H E hgd hr => by
    have hu := hr.units
    have hu2 := room128 hr
    exact (dss_newF (i := 3) (c := 4) (f := 6) (j := 7) (n := 2) rfl
    (L2.ps_par rfl sc_right.nd rfl rfl (by decide) rfl rfl (pa_cons (pe_makeG hgd T.e_o_init.make (ok_o_init T) (hr.mono (by decide)) rfl T.c_own T.e_o_init.bd pass0 (da_ex (de_name 1) da_nil)) (pa_cons (pe_lst pa_nil) pa_nil rfl) rfl) rfl)
    (ds_for PassesOwn.never rfl (di_range1 (de_name 2) rfl T.b_range) (dg_name sc_right.nd rfl (by first | exact Or.inl rfl | exact Or.inr rfl))
    (dss_cons (ds_set sc_right.nd rfl (by first | exact Or.inl rfl | exact Or.inr rfl) (de_add (do_nm 4) (do_ex (de_lst (dl_one (de_call hgd (ok_next T) (hr.mono (by decide)) rfl T.e_next.mg T.e_next.kp T.e_next.bd (da_io 0 (da_ex (de_name 1) (da_ex (de_pow (do_ex de_int) (do_ex de_int)) da_nil)))) dl_nil)))))
    (dss_one (ds_if (dt_not (dt_val (de_call hgd (ok_call T) (hr.mono (by decide)) rfl T.e_call.mg T.e_call.kp T.e_call.bd (da_io 3 (da_ex (de_ix (do_nm 4) (do_ex (de_neg (do_ex de_int)))) da_nil))))) (dss_one (ds_ret de_bl)) dss_nil))))
    (ds_if (dt_w (dw_and (dt_ne hu (do_nm 4) (do_ex (de_lst dl_nil))) (dw_and1 (dt_eq hu (do_ex (de_call hgd (ok_draw T) (hr.mono (by decide)) rfl T.e_draw.mg T.e_draw.kp T.e_draw.bd (da_io 0 (da_ex de_int da_nil)))) (do_ex de_int))))) (dss_cons (ds_set sc_right.nd rfl (by first | exact Or.inl rfl | exact Or.inr rfl) (de_sl (do_nm 4) dp_none (dp_some (de_neg (do_ex de_int)))))
    (dss_one (ds_expr (de_meth0 3 hgd T.cl T.e_o_undo.mt (ok_o_undo T) (hr.mono (by decide)) T.e_o_undo.bd)))) dss_nil)
    (ps_set sc_right.nd rfl (by first | exact Or.inl rfl | exact Or.inr rfl) (pe_lst (pa_cons (pe_lst (pa_cons (pe_var rfl (by first | exact Or.inl rfl | exact Or.inr (Or.inl rfl) | exact Or.inr (Or.inr rfl)) (by decide) (by decide)) (pa_cons (pe_var rfl (by first | exact Or.inl rfl | exact Or.inr (Or.inl rfl) | exact Or.inr (Or.inr rfl)) (by decide) (by decide)) pa_nil rfl) rfl)) (pa_cons (pe_lst (pa_cons (pe_end (pe_methG0 hgd (pe_var rfl (by first | exact Or.inl rfl | exact Or.inr (Or.inl rfl) | exact Or.inr (Or.inr rfl)) (by decide) (by decide)) T.cl T.e_o_fork.mt (okf_o_fork T) (hr.mono (by decide)) T.e_o_fork.bd pass0)) (pa_cons (pe_var rfl (by first | exact Or.inl rfl | exact Or.inr (Or.inl rfl) | exact Or.inr (Or.inr rfl)) (by decide) (by decide)) pa_nil rfl) rfl)) (pa_cons (pe_lst (pa_cons (pe_end (pe_methG0 hgd (pe_var rfl (by first | exact Or.inl rfl | exact Or.inr (Or.inl rfl) | exact Or.inr (Or.inr rfl)) (by decide) (by decide)) T.cl T.e_o_fork.mt (okf_o_fork T) (hr.mono (by decide)) T.e_o_fork.bd pass0)) (pa_cons (pe_var rfl (by first | exact Or.inl rfl | exact Or.inr (Or.inl rfl) | exact Or.inr (Or.inr rfl)) (by decide) (by decide)) pa_nil rfl) rfl)) (pa_cons (pe_lst (pa_cons (pe_end (pe_methG0 hgd (pe_end (pe_methG0 hgd (pe_var rfl (by first | exact Or.inl rfl | exact Or.inr (Or.inl rfl) | exact Or.inr (Or.inr rfl)) (by decide) (by decide)) T.cl T.e_o_fork.mt (okf_o_fork T) (hr.mono (by decide)) T.e_o_fork.bd pass0)) T.cl T.e_o_fork.mt (okf_o_fork T) (hr.mono (by decide)) T.e_o_fork.bd pass0)) (pa_cons (pe_var rfl (by first | exact Or.inl rfl | exact Or.inr (Or.inl rfl) | exact Or.inr (Or.inr rfl)) (by decide) (by decide)) pa_nil rfl) rfl)) pa_nil rfl) rfl) rfl) rfl)))
    (fun Ev pf => by
      letI mm : Memo := memoF Ev C0 pf K
      haveI : Triv mm := inferInstanceAs (Triv (memoF Ev C0 pf K))
      exact (dss_cons (ds_for PassesOwn.never rfl (di_range1 de_int rfl T.b_range) (dg_name sc_right.nd rfl (by first | exact Or.inl rfl | exact Or.inr rfl))
    (dss_cons (ds_rowAt (de_callS hgd (ok_draw (mm := noW (memoF Ev C0 pf K)) T) (hr.mono (by decide)) rfl T.e_draw.mg T.e_draw.kp T.e_draw.bd (da_io 0 (da_ex (de_lenFam 6 rfl T.b_len) da_nil))) sc_right.nd rfl (by first | exact Or.inl rfl | exact Or.inr rfl) rfl)
    (dss_cons (ds_if (dt_w (dw_and (dt_lt (do_ex (de_lenFam 6 rfl T.b_len)) (do_ex de_int)) (dw_and1 (dt_eq hu (do_ex (de_callS hgd (ok_draw (mm := noW (memoF Ev C0 pf K)) T) (hr.mono (by decide)) rfl T.e_draw.mg T.e_draw.kp T.e_draw.bd (da_io 0 (da_ex de_int da_nil)))) (do_ex de_int))))) (dss_one (ds_appF 6 7 hgd T.cl T.e_o_fork.mt (okf_o_fork T) (hr.mono (by decide)) T.e_o_fork.bd pe_int pe_int)) (dss_cons (ds_rowPut (de_rowS 6 7 0 1 hgd (ok_stepped (mm := plainAt C0) T) (hr.mono (by decide)) rfl T.e_stepped.mg T.e_stepped.kp T.e_stepped.bd pe_int pe_int) pe_int rfl rfl)
    (dss_one (ds_if (dt_is (do_ex (de_row1 6 7 pe_int)) (do_ex de_non)) (dss_one (ds_ret de_bl)) dss_nil))))
    (dss_one (ds_if (dt_not (dt_val (de_famC 1 6 hgd (okr_are_right T) (hr.mono (by decide)) rfl T.e_are_right.mg T.e_are_right.kp T.e_are_right.bd))) (dss_one (ds_ret de_bl)) dss_nil)))))
    (dss_cons (ds_forRow PassesOwn.never rfl sc_right.nd rfl (by first | exact Or.inl rfl | exact Or.inr rfl) rfl (dss_cons (ds_while PassesOwn.never (dt_ne hu (do_ex (de_row1 6 7 pe_int)) (do_ex (de_lst dl_nil)))
    (dss_cons (ds_rowPut (de_sl (do_ex (de_row1 6 7 pe_int)) dp_none (dp_some (de_neg (do_ex de_int)))) pe_int rfl rfl)
    (dss_one (ds_if (dt_w (dw_or (dt_isn (do_ex (de_rowM 6 7 hgd T.cl T.e_o_undo.mt (ok_o_undo (mm := plainAt C0) T) (hr.mono (by decide)) T.e_o_undo.bd pe_int)) (do_ex de_non)) (dw_or1 (dt_ne hu (do_ex (de_rowC 6 7 hgd (ok_told (mm := plainAt C0) T) (hr.mono (by decide)) rfl T.e_told.mg T.e_told.kp T.e_told.bd pe_int)) (do_ex (de_callS hgd (ok_due (mm := noW (memoF Ev C0 pf K)) T) (hr.mono (by decide)) rfl T.e_due.mg T.e_due.kp T.e_due.bd (da_ex (de_name 1) (da_ex (de_row1 6 7 pe_int) da_nil)))))))) (dss_one (ds_ret de_bl)) dss_nil))))
    (dss_one (ds_if (dt_not (dt_val (de_famC 1 6 hgd (okr_are_right T) (hr.mono (by decide)) rfl T.e_are_right.mg T.e_are_right.kp T.e_are_right.bd))) (dss_one (ds_ret de_bl)) dss_nil))) (by first | exact Or.inl rfl | exact Or.inr rfl))
    (dss_one (ds_ret de_bl))))))
theorem sc_kind : FnScope ["_law_stock_here", "_law_most", "_law_places_here", "_law_setters_here", "_law_reach_here"] ["_law_stock_here", "_law_most"] (defScope s_kind) := ⟨rfl, rfl, rfl, by decide +kernel, rfl, by decide +kernel, by decide +kernel⟩
theorem ok_kind [mm : Memo] [Triv mm] [Still mm] (T : TX Memo.C K mg) : FnG P w K mg base CX0 2 T.e_kind.f T.e_kind.fd ["_law_stock_here", "_law_most"] (spD K 2 m_kind) :=
  okG (k := 1) (n := 2) (m := 3) (Pn := [0]) T.e_kind.fn sc_kind rfl rfl (by decide) fun cdv A outer s H E hgd hr => by
    have hu := hr.units
    have hu2 := room128 hr
    exact (dss_cons (ds_set sc_kind.nd rfl (by first | exact Or.inl rfl | exact Or.inr rfl) (de_add (do_ex de_int) (do_ex (de_call hgd (ok_draw T) (hr.mono (by decide)) rfl T.e_draw.mg T.e_draw.kp T.e_draw.bd (da_io 0 (da_ex (de_name 1) da_nil))))))
    (dss_cons (ds_set sc_kind.nd rfl (by first | exact Or.inl rfl | exact Or.inr rfl) (de_add (do_ex de_int) (do_ex (de_call hgd (ok_draw T) (hr.mono (by decide)) rfl T.e_draw.mg T.e_draw.kp T.e_draw.bd (da_io 0 (da_ex (de_ix (do_ex (de_lst (dl_one de_int (dl_one (de_name 2) (dl_one (de_min2 rfl rfl T.b_min (do_ex de_int) (do_nm 2)) dl_nil))))) (do_ex (de_call hgd (ok_draw T) (hr.mono (by decide)) rfl T.e_draw.mg T.e_draw.kp T.e_draw.bd (da_io 0 (da_ex de_int da_nil))))) da_nil))))))
    (dss_cons (ds_set sc_kind.nd rfl (by first | exact Or.inl rfl | exact Or.inr rfl) (de_ix (do_ex (de_lst (dl_one de_int (dl_one (de_name 2) (dl_one de_int (dl_one (de_call hgd (ok_draw T) (hr.mono (by decide)) rfl T.e_draw.mg T.e_draw.kp T.e_draw.bd (da_io 0 (da_ex (de_add (do_nm 2) (do_ex de_int)) da_nil))) dl_nil)))))) (do_ex (de_call hgd (ok_draw T) (hr.mono (by decide)) rfl T.e_draw.mg T.e_draw.kp T.e_draw.bd (da_io 0 (da_ex de_int da_nil))))))
    (dss_one (ds_ret (de_tup (dl_one (de_name 2) (dl_one (de_name 3) (dl_one (de_min2 rfl rfl T.b_min (do_nm 4) (do_nm 2)) dl_nil)))))))))
theorem sc_law : FnScope ["_law_script", "_law_stock_here", "_law_turn", "_law_one_here", "_law_told_here"] ["_law_script"] (defScope s_law) := ⟨rfl, rfl, rfl, by decide +kernel, rfl, by decide +kernel, by decide +kernel⟩
theorem ok_law {C0 : Addr} (T : TX C0 K mg) : FnG P w K mg base CX0 10 T.e_law.f T.e_law.fd ["_law_script"] (@spD (plainAt C0) K 1 m_law) := by
  letI mm : Memo := plainAt C0
  haveI : Triv mm := inferInstanceAs (Triv (plainAt C0))
  haveI : Still mm := inferInstanceAs (Still (plainAt C0))
  exact okG (k := 9) (n := 1) (m := 4) (Pn := []) T.e_law.fn sc_law rfl rfl (by decide) fun cdv A outer s H E hgd hr => by
    have hu := hr.units
    have hu2 := room128 hr
    exact (dss_cons (ds_set sc_law.nd rfl (by first | exact Or.inl rfl | exact Or.inr rfl) (de_call hgd (ok_stock T) (hr.mono (by decide)) rfl T.e_stock.mg T.e_stock.kp T.e_stock.bd (da_ex (de_name 0) da_nil)))
    (dss_cons (ds_for PassesOwn.never rfl (di_range1 de_int rfl T.b_range) (dg_name sc_law.nd rfl (by first | exact Or.inl rfl | exact Or.inr rfl))
    (dss_one (ds_if (dt_not (dt_val (de_call hgd (ok_right T) (hr.mono (by decide)) rfl T.e_right.mg T.e_right.kp T.e_right.bd (da_io 1 (da_ex (de_call hgd (ok_kind T) (hr.mono (by decide)) rfl T.e_kind.mg T.e_kind.kp T.e_kind.bd (da_io 1 (da_ex (de_ix (do_ex (de_lst (dl_one de_int (dl_one de_int dl_nil)))) (do_ex (de_call hgd (ok_draw T) (hr.mono (by decide)) rfl T.e_draw.mg T.e_draw.kp T.e_draw.bd (da_io 1 (da_ex de_int da_nil))))) da_nil))) (da_ex (de_call hgd (ok_draw T) (hr.mono (by decide)) rfl T.e_draw.mg T.e_draw.kp T.e_draw.bd (da_io 1 (da_ex de_int da_nil))) da_nil)))))) (dss_one (ds_ret de_bl)) dss_nil)))
    (dss_cons (ds_if (dt_not (dt_val (de_call hgd (ok_hundred_right T) (hr.mono (by decide)) rfl T.e_hundred_right.mg T.e_hundred_right.kp T.e_hundred_right.bd (da_io 1 (da_ex (de_call hgd (ok_kind T) (hr.mono (by decide)) rfl T.e_kind.mg T.e_kind.kp T.e_kind.bd (da_io 1 (da_ex de_int da_nil))) da_nil))))) (dss_one (ds_ret de_bl)) dss_nil)
    (dss_cons (ds_set sc_law.nd rfl (by first | exact Or.inl rfl | exact Or.inr rfl) (de_make hgd T.e_o_init.make (ok_o_init T) (hr.mono (by decide)) rfl T.c_own T.e_o_init.bd (da_ex (de_tup (dl_one de_int (dl_one de_int (dl_one de_int dl_nil)))) da_nil)))
    (dss_cons (ds_set sc_law.nd rfl (by first | exact Or.inl rfl | exact Or.inr rfl) (de_lst (dl_one (de_meth 3 hgd T.cl T.e_o_set_to.mt (ok_o_set_to T) (hr.mono (by decide)) T.e_o_set_to.bd (da_ex de_int da_nil)) (dl_one (de_meth 3 hgd T.cl T.e_o_turn.mt (ok_o_turn T) (hr.mono (by decide)) T.e_o_turn.bd (da_ex de_int da_nil)) (dl_one (de_meth0 3 hgd T.cl T.e_o_clear_register.mt (ok_o_clear_register T) (hr.mono (by decide)) T.e_o_clear_register.bd) (dl_one (de_meth0 3 hgd T.cl T.e_o_clear_counter.mt (ok_o_clear_counter T) (hr.mono (by decide)) T.e_o_clear_counter.bd) (dl_one (de_meth0 3 hgd T.cl T.e_o_undo.mt (ok_o_undo T) (hr.mono (by decide)) T.e_o_undo.bd) dl_nil)))))))
    (dss_cons (ds_set sc_law.nd rfl (by first | exact Or.inl rfl | exact Or.inr rfl) (de_add (do_nm 4) (do_ex (de_lst (dl_one (de_meth0 3 hgd T.cl T.e_o_undo.mt (ok_o_undo T) (hr.mono (by decide)) T.e_o_undo.bd) (dl_one (de_prop 3 hgd T.cl T.e_o_display.pr (ok_o_display T) (hr.mono (by decide)) T.e_o_display.bd) (dl_one (de_prop 3 hgd T.cl T.e_o_counter.pr (ok_o_counter T) (hr.mono (by decide)) T.e_o_counter.bd) (dl_one (de_meth0 3 hgd T.cl T.e_o_undo.mt (ok_o_undo T) (hr.mono (by decide)) T.e_o_undo.bd) (dl_one (de_prop 3 hgd T.cl T.e_o_bells.pr (ok_o_bells T) (hr.mono (by decide)) T.e_o_bells.bd) dl_nil)))))))))
    (dss_one (ds_ret (de_eq hu (do_ex (de_repr hgd hu2 rfl T.b_repr (do_nm 4))) (do_ex (de_repr hgd hu2 rfl T.b_repr (do_ex (de_add (do_ex (de_mul (do_ex (de_lst (dl_one de_non dl_nil))) (do_ex de_int))) (do_ex (de_lst (dl_one de_int (dl_one (de_lst (dl_one de_int (dl_one de_int (dl_one de_int (dl_one de_int dl_nil))))) (dl_one de_non (dl_one de_int dl_nil)))))))))))))))))))
end
end CK
namespace CK
open PySem L2
local macro_rules | `(tactic| walk_at "ev") => `(tactic| simp only [↓ev_bind, ↓ev_some, ↓ev_none, ↓ev_ite, ↓ev_gd, ↓br_true, ↓br_false, ↓gd_true, ↓ev_rdN, ↓ev_dN, ↓ev_dC, ↓ev_dRaw, ↓ev_op1n, ↓ev_op1e, ↓ev_op2nn, ↓ev_op2ne, ↓ev_op2en, ↓ev_op2ee, ↓ev_tOfE, ↓ev_tTrue, ↓ev_tAnd, ↓ev_tOr, ↓ev_tNot, ↓ev_eOfT, ↓ev_dIfE, ↓ev_dAnd, ↓ev_dOr, ↓ev_dNot, ↓ev_dCh, ↓ev_sSeq, ↓kseq_nx, ↓kseq_rt, ↓kseq_bk, ↓kseq_ct, ↓ev_sNext, ↓ev_sBrk, ↓ev_sCt, ↓ev_sStuck, ↓ev_sExpr, ↓ev_sRet, ↓ev_sSet, ↓ev_sIf, ↓ev_sAsg, ↓ev_sPar, ↓ev_sPar3, ↓ev_sRetV, ↓ev_tgN, ↓ev_tgT, ↓ev_tgNil, ↓ev_tgCons, ↓ev_fnD, ↓kRet_rt, ↓kRet_nx, ↓back_nil, ↓back_cons, ↓ev_dCall, ↓ev_agNil, ↓ev_agIo, ↓ev_agEx, ↓ev_agSNil, ↓ev_agSIo, ↓ev_agSEx, ↓ev_fnP, ↓ev_elNil, ↓ev_elOne, ↓ev_elStar, ↓ev_dLst, ↓ev_dTup, ↓ev_dLenF, ↓ev_dIxF, ↓ev_dSlF, ↓ev_prtN, ↓ev_prtS, ↓ev_dSlN, ↓ev_dSlE, ↓ev_dApp, ↓ev_dExt, ↓ev_sSto, ↓ev_sAug, ↓ev_dLend, ↓unl_nil, ↓unl_cons, ↓unl1_owo, ↓unl1_owi, ↓ev_itSeq, ↓ev_itR1, ↓ev_itR2, ↓ev_itR3, ↓ev_itEn, ↓ev_itZip, ↓ev_sFor, ↓kLoop_nx, ↓kLoop_ct, ↓kLoop_bk, ↓kLoop_rt, ↓ev_loopNil, ↓ev_dLc', ↓ev_lcNil, ↓ev_dLR1, ↓ev_dLR2, ↓ev_dCh3, ↓ev_dIdx, ↓ev_tgS, ↓ev_sPick, ↓ev_dFld, ↓ev_sFldD, ↓ev_dMeth, ↓ev_dProp, ↓ev_dMake, ↓ev_dHide, ↓ev_dDicE, ↓ev_dDicN, ↓ev_dDic1, ↓ev_dDGet, ↓ev_dDIn, ↓ev_sDPutD, ↓ev_dSortK, ↓ev_dMPl, ↓ev_dMMeth, ↓ev_dCallM, ↓kThru_nx, ↓ev_sMemo, ↓ev_dUnl, ↓ev_sPar4, ↓ev_dOrL, ↓ev_dDFrz, ↓ev_tgTL, rdS_im, rdS_ow, dNS_im, dNS_ow, dNS_fz, dNS_raw, sh_im, sh_ow, arg_im, arg_ow, arg_fz, arg_raw, bool_bl, intOf_int, retS_im, retS_ow, retS_fz, retS_raw, okR_im, okR_fz, okR_raw, okR_ow, isOw_ow, isOw_mo, bkS_im, bkS_fz, bkS_raw, owS_ow, ioS_bx, ioS_mo, agB_io, agB_ex, agB_nil, itemsD_l, itemsD_t, fzS_fz, listS_l, iiS_i, frz1_eq, frzS_ow, frzS_im, frzS_no, lendIn_nil, lendIn_cons, unl1_im, unl1_no, unl1_fz, unl1_raw, unl1_owt, nolR_im, nolR_ow, nolD_int, nolD_str, nolD_bool, nolD_none, nolD_tup, nolAll_nil, nolAll_cons, nolAll_ints, nolAll_app, v_add, v_adds, v_addl, v_addt, v_sub, v_mul, v_mull, v_muls, v_mod, v_fdiv, v_pow, v_neg, v_bl, v_nb, v_lt, v_le, v_gt, v_ge, v_ne, v_isn, v_eqi, v_eqs, v_eqb, v_eqn, v_eqin, v_eqni, v_eqll, v_eqtt, v_isnn, v_isin, v_issn, v_isbn, v_isln, v_istn, v_isbb, v_abs, v_max, v_min, v_lenl, v_lent, v_lens, v_inti, v_intb, v_ints, v_stri, v_strs, v_listl, v_listt, v_tupl, v_tupt, v_sum, v_maxl, v_minl, v_sorted, v_any, v_all, v_r3, v_rev, v_divmod, v_ixl, v_ixt, v_ixs, v_sll, v_slt, v_sls, v_isi, cls_none, cls_bool, cls_int, cls_str, cls_list, cls_tuple, seqD_l, seqD_t, seqD_s, lstS_im, lstS_ow, v_usort, v_meml, v_memt, v_nmem, objS_o, makeS_o, hide_nil, hide_cons, hideS_o, hideS_l, hideS_im, hideS_fz, hideS_no, unh_nil, unh_cons, unS_o, unS_l, unS_im, unS_fz, unS_no, str_kc, str_ne, keyOf_int, keyOf_str, dicS_d, v_isiE, clsE_dict, clsE_none, clsE_bool, clsE_int, clsE_str, clsE_list, clsE_tuple, kin_dict_int, kin_dict_bool, kin_dict_str, kin_dict_list, kin_dict_tuple, moS_mo, moIn_nil, moIn_mo, moIn_im, moIn_bx, moIn_no, moIn_fz, moIn_raw, ownL_l, imS_im, v_ltl, v_ixkl, v_ixkt, v_ixkd, kin_int_int, kin_int_bool, kin_int_str, kin_int_list, kin_int_tuple, kin_bool_int, kin_bool_bool, kin_bool_str, kin_bool_list, kin_bool_tuple, kin_str_int, kin_str_bool, kin_str_str, kin_str_list, kin_str_tuple, kin_list_int, kin_list_bool, kin_list_str, kin_list_list, kin_list_tuple, kin_tuple_int, kin_tuple_bool, kin_tuple_str, kin_tuple_list, kin_tuple_tuple, kin_NoneType_int, kin_NoneType_bool, kin_NoneType_str, kin_NoneType_list, kin_NoneType_tuple, at0, at1, at2, at3, at4, at5, ix0, ix1, ix2, eq_self, mc0, mc1, mc2, one_S, zero_S, repS_dig, SX.S_len, S_catX, num_nat, digs_fold, List.length_replicate, List.length_map, Nat.one_mul, Nat.mul_one, Nat.zero_add, List.flatten_cons, List.flatten_nil, P62, LINE, Int.cast_ofNat_Int, PyData.eqv, PyData.eqvAll, Int.reduceEq, Int.reduceNe, Int.reduceLT, Int.reduceLE, Int.reduceGT, Int.reduceGE, Int.reduceBEq, Nat.reduceEqDiff, Nat.reduceLeDiff, Nat.reduceSub, beq_self_eq_true, Nat.reduceBEq, Bool.or_false, Bool.or_true, Bool.true_or, Bool.false_or, Bool.false_eq_true, reduceCtorEq, Int.reducePow, Int.reduceAdd, Int.reduceMul, Int.reduceSub, Int.reduceToNat, Int.reduceNeg, Nat.reduceAdd, Nat.reduceMul, Nat.reducePow, and_self, ite_true, ite_false, and_true, true_and, List.append_nil, List.getElem?_cons_zero, List.getElem?_cons_succ, List.getElem?_nil, List.set_cons_zero, List.set_cons_succ, List.set_nil, List.cons_append, List.nil_append, List.replicate_succ, List.replicate_zero, List.length_cons, List.length_nil, decide_eq_true_eq, decide_true, decide_false, Bool.not_true, Bool.not_false, Bool.not_not, List.zip_cons_cons, List.zip_nil_left, List.zip_nil_right, List.lookup_cons, agI, putD, List.filterMap_cons, List.filterMap_nil, allPlain, noOw, List.all_cons, List.all_nil, Bool.and_true, Bool.true_and, Bool.and_false, Bool.false_and, Bool.not_eq_true, Bool.not_eq_false, List.contains_cons, List.contains_nil, calmD, wipeD, unwipe, Option.getD_some, Option.getD_none])
local macro_rules | `(tactic| walk_at "sz") => `(tactic| first | omega | exact lgm (by omega) (by omega) (by omega) (by omega) | exact lgf (by omega) (by omega) | exact lgp (by omega) (by omega) (by omega) (by omega) | exact lgs (by omega) (by omega) | exact lgv (by omega) (by omega) (by omega) | decide | exact ⟨rfl, rfl⟩)
local macro_rules | `(tactic| walk_at "dis") => `(tactic| first | assumption | omega)
local macro_rules | `(tactic| walk_at "go") => `(tactic| repeat (first | refine gd_mk (by walk_at "sz") ?_ | walk_at "ev" | walk_at "kn"))
local macro_rules | `(tactic| walk_at "kn") => `(tactic| fail)
section
local macro_rules | `(tactic| walk_at "kn") => `(tactic| simp (discharger := walk_at "dis") only [ev_dDIn, ev_dDGet, keyOf_str, imS_im])
theorem ev_atP {α : Type} {l : List α} {i : Int} {Q : α → Prop} (P : α → Prop) (h0 : 0 ≤ i) (h1 : i < l.length) (h : ∀ d ∈ l, P d) (q : ∀ d, P d → Q d) : Ev (atI l i) Q := by
  obtain ⟨a, e, g⟩ := atin l h0 h1
  exact ⟨a, g, q a (h a (List.mem_of_getElem? e))⟩
theorem p10 (n : Nat) : (0 : Int) < 10 ^ n := Int.pow_pos (by decide)
theorem p10_le {m n : Nat} (h : m ≤ n) : (10 : Int) ^ m ≤ 10 ^ n := by
  obtain ⟨k, rfl⟩ := Nat.exists_eq_add_of_le h
  rw [Int.pow_add]
  have h1 := p10 m
  have h2 := p10 k
  have := Int.mul_le_mul_of_nonneg_left (show (1 : Int) ≤ 10 ^ k by omega) (show (0 : Int) ≤ 10 ^ m by omega)
  omega
theorem p10_lt {n : Nat} {m : Nat} (h : n ≤ m) (hm : m ≤ 240 := by decide) : (10 : Int) ^ n < 10 ^ 245 := by
  have := p10_le (show n ≤ 240 by omega)
  have : (10 : Int) ^ 240 < 10 ^ 245 := by decide +kernel
  omega
theorem sel1 {a0 i : Int} {Q : PyData → Prop} (h0 : 0 ≤ i) (h1 : i < 1) (q : ∀ x, (x = a0) → Q (.int x)) : Ev (atI [.int a0] i) Q :=
  ev_atP (fun y => ∃ x : Int, y = .int x ∧ (x = a0)) h0 h1 (allc ⟨_, rfl, by simp⟩ alln) (fun y ⟨x, k1, k2⟩ => by rw [k1]; exact q x k2)
theorem sel2 {a0 a1 i : Int} {Q : PyData → Prop} (h0 : 0 ≤ i) (h1 : i < 2) (q : ∀ x, (x = a0 ∨ x = a1) → Q (.int x)) : Ev (atI [.int a0, .int a1] i) Q :=
  ev_atP (fun y => ∃ x : Int, y = .int x ∧ (x = a0 ∨ x = a1)) h0 h1 (allc ⟨_, rfl, by simp⟩ (allc ⟨_, rfl, by simp⟩ alln)) (fun y ⟨x, k1, k2⟩ => by rw [k1]; exact q x k2)
theorem sel3 {a0 a1 a2 i : Int} {Q : PyData → Prop} (h0 : 0 ≤ i) (h1 : i < 3) (q : ∀ x, (x = a0 ∨ x = a1 ∨ x = a2) → Q (.int x)) : Ev (atI [.int a0, .int a1, .int a2] i) Q :=
  ev_atP (fun y => ∃ x : Int, y = .int x ∧ (x = a0 ∨ x = a1 ∨ x = a2)) h0 h1 (allc ⟨_, rfl, by simp⟩ (allc ⟨_, rfl, by simp⟩ (allc ⟨_, rfl, by simp⟩ alln))) (fun y ⟨x, k1, k2⟩ => by rw [k1]; exact q x k2)
theorem sel4 {a0 a1 a2 a3 i : Int} {Q : PyData → Prop} (h0 : 0 ≤ i) (h1 : i < 4) (q : ∀ x, (x = a0 ∨ x = a1 ∨ x = a2 ∨ x = a3) → Q (.int x)) : Ev (atI [.int a0, .int a1, .int a2, .int a3] i) Q :=
  ev_atP (fun y => ∃ x : Int, y = .int x ∧ (x = a0 ∨ x = a1 ∨ x = a2 ∨ x = a3)) h0 h1 (allc ⟨_, rfl, by simp⟩ (allc ⟨_, rfl, by simp⟩ (allc ⟨_, rfl, by simp⟩ (allc ⟨_, rfl, by simp⟩ alln)))) (fun y ⟨x, k1, k2⟩ => by rw [k1]; exact q x k2)
theorem sel5 {a0 a1 a2 a3 a4 i : Int} {Q : PyData → Prop} (h0 : 0 ≤ i) (h1 : i < 5) (q : ∀ x, (x = a0 ∨ x = a1 ∨ x = a2 ∨ x = a3 ∨ x = a4) → Q (.int x)) : Ev (atI [.int a0, .int a1, .int a2, .int a3, .int a4] i) Q :=
  ev_atP (fun y => ∃ x : Int, y = .int x ∧ (x = a0 ∨ x = a1 ∨ x = a2 ∨ x = a3 ∨ x = a4)) h0 h1 (allc ⟨_, rfl, by simp⟩ (allc ⟨_, rfl, by simp⟩ (allc ⟨_, rfl, by simp⟩ (allc ⟨_, rfl, by simp⟩ (allc ⟨_, rfl, by simp⟩ alln))))) (fun y ⟨x, k1, k2⟩ => by rw [k1]; exact q x k2)
theorem sel6 {a0 a1 a2 a3 a4 a5 i : Int} {Q : PyData → Prop} (h0 : 0 ≤ i) (h1 : i < 6) (q : ∀ x, (x = a0 ∨ x = a1 ∨ x = a2 ∨ x = a3 ∨ x = a4 ∨ x = a5) → Q (.int x)) : Ev (atI [.int a0, .int a1, .int a2, .int a3, .int a4, .int a5] i) Q :=
  ev_atP (fun y => ∃ x : Int, y = .int x ∧ (x = a0 ∨ x = a1 ∨ x = a2 ∨ x = a3 ∨ x = a4 ∨ x = a5)) h0 h1 (allc ⟨_, rfl, by simp⟩ (allc ⟨_, rfl, by simp⟩ (allc ⟨_, rfl, by simp⟩ (allc ⟨_, rfl, by simp⟩ (allc ⟨_, rfl, by simp⟩ (allc ⟨_, rfl, by simp⟩ alln)))))) (fun y ⟨x, k1, k2⟩ => by rw [k1]; exact q x k2)
theorem sel7 {a0 a1 a2 a3 a4 a5 a6 i : Int} {Q : PyData → Prop} (h0 : 0 ≤ i) (h1 : i < 7) (q : ∀ x, (x = a0 ∨ x = a1 ∨ x = a2 ∨ x = a3 ∨ x = a4 ∨ x = a5 ∨ x = a6) → Q (.int x)) : Ev (atI [.int a0, .int a1, .int a2, .int a3, .int a4, .int a5, .int a6] i) Q :=
  ev_atP (fun y => ∃ x : Int, y = .int x ∧ (x = a0 ∨ x = a1 ∨ x = a2 ∨ x = a3 ∨ x = a4 ∨ x = a5 ∨ x = a6)) h0 h1 (allc ⟨_, rfl, by simp⟩ (allc ⟨_, rfl, by simp⟩ (allc ⟨_, rfl, by simp⟩ (allc ⟨_, rfl, by simp⟩ (allc ⟨_, rfl, by simp⟩ (allc ⟨_, rfl, by simp⟩ (allc ⟨_, rfl, by simp⟩ alln))))))) (fun y ⟨x, k1, k2⟩ => by rw [k1]; exact q x k2)
theorem sel8 {a0 a1 a2 a3 a4 a5 a6 a7 i : Int} {Q : PyData → Prop} (h0 : 0 ≤ i) (h1 : i < 8) (q : ∀ x, (x = a0 ∨ x = a1 ∨ x = a2 ∨ x = a3 ∨ x = a4 ∨ x = a5 ∨ x = a6 ∨ x = a7) → Q (.int x)) : Ev (atI [.int a0, .int a1, .int a2, .int a3, .int a4, .int a5, .int a6, .int a7] i) Q :=
  ev_atP (fun y => ∃ x : Int, y = .int x ∧ (x = a0 ∨ x = a1 ∨ x = a2 ∨ x = a3 ∨ x = a4 ∨ x = a5 ∨ x = a6 ∨ x = a7)) h0 h1 (allc ⟨_, rfl, by simp⟩ (allc ⟨_, rfl, by simp⟩ (allc ⟨_, rfl, by simp⟩ (allc ⟨_, rfl, by simp⟩ (allc ⟨_, rfl, by simp⟩ (allc ⟨_, rfl, by simp⟩ (allc ⟨_, rfl, by simp⟩ (allc ⟨_, rfl, by simp⟩ alln)))))))) (fun y ⟨x, k1, k2⟩ => by rw [k1]; exact q x k2)
theorem mul_bd {a b A B : Int} (h0 : 0 ≤ a) (h1 : a < A) (h2 : -B < b) (h3 : b < B) : -(A * B) < a * b ∧ a * b < A * B := by
  have hB : 0 < B := by omega
  have h4 : a * b ≤ a * B := Int.mul_le_mul_of_nonneg_left (by omega) h0
  have h5 : a * (-B) ≤ a * b := Int.mul_le_mul_of_nonneg_left (by omega) h0
  have h6 : a * B < A * B := Int.mul_lt_mul_of_pos_right h1 hB
  rw [Int.mul_neg] at h5
  omega
theorem mul_bd2 {a b A B : Int} (h0 : -A < a) (h1 : a < A) (h2 : -B < b) (h3 : b < B) : -(A * B) < a * b ∧ a * b < A * B := by
  by_cases h : 0 ≤ a
  · exact mul_bd h h1 h2 h3
  · have := mul_bd (a := -a) (A := A) (by omega) (by omega) h2 h3
    rw [Int.neg_mul] at this
    omega
structure Good (w s r : Int) : Prop where
  w1 : 1 ≤ w
  w2 : w ≤ 40
  s1 : 1 ≤ s
  s2 : s ≤ w
  r1 : 0 ≤ r
  r2 : r ≤ w
theorem is_integer_eq (i : Int) : m_is_integer [.im (.int i)] = some (.im (.bool true), [.im (.int i)]) := by
  refine Ev.eq ?_
  unfold m_is_integer
  walk_at "go"
theorem is_between_eq (a lo hi : Int) : m_is_between [.im (.int a), .im (.int lo), .im (.int hi)] = some (.im (.bool (decide (lo ≤ a ∧ a ≤ hi))), [.im (.int a), .im (.int lo), .im (.int hi)]) := by
  refine Ev.eq ?_
  unfold m_is_between
  walk_at "go"
  rw [is_integer_eq]
  walk_at "go"
  refine br_mk (fun h => ?_) fun h => ?_
  · walk_at "go"
    simp [h]
  · walk_at "go"
    simp [h]
theorem machine_fault_ok {w s r : Int} (h : Good w s r) : m_machine_fault [.im (Mc w s r)] = some (.im (.tuple []), [.im (Mc w s r)]) := by
  obtain ⟨h1, h2, h3, h4, h5, h6⟩ := h
  refine Ev.eq ?_
  unfold m_machine_fault Mc
  walk_at "go"
  rw [is_between_eq, decide_eq_true (show 1 ≤ w ∧ w ≤ 40 from ⟨h1, h2⟩)]
  walk_at "go"
  rw [is_between_eq, decide_eq_true (show 1 ≤ s ∧ s ≤ w from ⟨h3, h4⟩)]
  walk_at "go"
  rw [is_between_eq, decide_eq_true (show 0 ≤ r ∧ r ≤ w from ⟨h5, h6⟩)]
  walk_at "go"
theorem require_machine_ok {w s r : Int} (h : Good w s r) : m_require_machine [.im (Mc w s r)] = some (.im .none, [.im (Mc w s r)]) := by
  refine Ev.eq ?_
  unfold m_require_machine
  walk_at "go"
  rw [machine_fault_ok h]
  walk_at "go"
theorem places_of_eq (w s r : Int) : m_places_of [.im (Mc w s r)] = some (.im (.int (w - s + 1)), [.im (Mc w s r)]) := by
  refine Ev.eq ?_
  unfold m_places_of Mc
  walk_at "go"
theorem require_place_ok {w s r p : Int} (h0 : 0 ≤ p) (h1 : p ≤ w - s) : m_require_place [.im (Mc w s r), .im (.int p)] = some (.im .none, [.im (Mc w s r), .im (.int p)]) := by
  refine Ev.eq ?_
  unfold m_require_place
  walk_at "go"
  rw [places_of_eq]
  walk_at "go"
  rw [is_between_eq, decide_eq_true (show 0 ≤ p ∧ p ≤ w - s + 1 - 1 from ⟨h0, by omega⟩)]
  walk_at "go"
def edge (w s r p : Int) : Int := if w < p + s + r then w else p + s + r
theorem edge_of_eq (w s r p : Int) : m_edge_of [.im (Mc w s r), .im (.int p)] = some (.im (.int (edge w s r p)), [.im (Mc w s r), .im (.int p)]) := by
  refine Ev.eq ?_
  unfold m_edge_of Mc edge
  walk_at "go"
theorem edge_pos {w s r p : Int} (h : Good w s r) (h0 : 0 ≤ p) : 1 ≤ edge w s r p ∧ edge w s r p ≤ w ∧ edge w s r p ≤ 40 := by
  obtain ⟨h1, h2, h3, h4, h5, h6⟩ := h
  unfold edge
  split <;> omega
theorem ten_power_eq {n : Int} (h0 : 0 ≤ n) (h1 : n ≤ 600) : m_ten_power [.im (.int n)] = some (.im (.int (10 ^ n.toNat)), [.im (.int n)]) := by
  refine Ev.eq ?_
  unfold m_ten_power
  walk_at "go"
  have e : intText? (SX.S ([49] ++ List.replicate n.toNat 48)) = some ((10 ^ n.toNat : Nat) : Int) := by
    rw [← SX.S_cat, ← repS_dig]; exact ten_text _ (by omega)
  refine Ev.of e ?_
  walk_at "go"
  rw [Int.natCast_pow]
  rfl
theorem take_snoc {α : Type} {l : List α} {i : Nat} {a : α} (h : l[i]? = some a) : l.take (i + 1) = l.take i ++ [a] := by
  obtain ⟨hi, e⟩ := List.getElem?_eq_some_iff.mp h
  rw [List.take_add_one, h]; rfl
def Jar (m : Nat) (j : List PyData) : Prop := ∃ a b c : Int, j = [.int a, .int b, .int c] ∧ 0 ≤ a ∧ 0 ≤ b ∧ b < 10 ^ 40 ∧ 0 ≤ c ∧ c ≤ m
theorem Jar.mono {m n : Nat} {j : List PyData} (h : Jar m j) (g : m ≤ n) : Jar n j := by
  obtain ⟨a, b, c, rfl, h1, h2, h3, h4, h5⟩ := h
  exact ⟨a, b, c, rfl, h1, h2, h3, h4, by omega⟩
theorem Jar.nol {m : Nat} {j : List PyData} (h : Jar m j) : nolAll j = true := by
  obtain ⟨a, b, c, rfl, _⟩ := h
  simp [nolAll, nolD]
theorem drawS_spec {m : Nat} {j : List PyData} {n : Int} (hj : Jar m j) (hm : m ≤ 10 ^ 15) (hn : 0 < n) (hn2 : n < 10 ^ 245) :
    Ev (m_draw [.bx .l j, .im (.int n)]) fun y => ∃ r j', y = (.im (.int r), [.bx .l j', .im (.int n)]) ∧ 0 ≤ r ∧ r < n ∧ Jar (m + 1) j' := by
  obtain ⟨a, b, c, rfl, h1, h2, h3, h4, h5⟩ := hj
  unfold m_draw
  walk_at "go"
  refine br_mk (fun h => ?_) fun h => ?_
  · walk_at "go"
    exact ⟨_, _, rfl, Int.emod_nonneg _ (by omega), Int.emod_lt_of_pos _ hn, _, _, _, rfl, Int.ediv_nonneg h1 (by omega), h2, h3, h4, by omega⟩
  · walk_at "go"
    exact ⟨_, _, rfl, Int.emod_nonneg _ (by omega), Int.emod_lt_of_pos _ hn, _, _, _, rfl, h1, h2, h3, by omega, by omega⟩
theorem mul_ok {i j : Int} {a b : Nat} (h1 : -(2 ^ a) < i) (h2 : i < 2 ^ a) (h3 : -(2 ^ b) < j) (h4 : j < 2 ^ b) (h : a + b < 1000000) : MulOk i j := by
  have key : ∀ {x : Int} {c : Nat}, -(2 ^ c) < x → x < 2 ^ c → x.natAbs.log2 ≤ c := fun {x c} g1 g2 => by
    by_cases z : x.natAbs = 0
    · rw [z]; simp
    · have : x.natAbs < 2 ^ c := by
        have e : ((2 ^ c : Nat) : Int) = 2 ^ c := by rw [Int.natCast_pow]; rfl
        omega
      exact Nat.le_of_lt ((Nat.log2_lt z).mpr this)
  unfold MulOk
  have := key h1 h2
  have := key h3 h4
  omega
theorem stock_spec {ns : List Int} (h : ns.length ≤ 63) :
    Ev (m_stock [.fz (ns.map PyData.int)]) fun y => ∃ j, y = (.bx .l j, [.fz (ns.map PyData.int)]) ∧ Jar 0 j := by
  unfold m_stock
  walk_at "go"
  rw [show cutD (ns.map PyData.int) none (some 63) = ns.map PyData.int by
    unfold cutD
    rw [HT.sIx_none, show (some (63 : Int)) = some ((63 : Nat) : Int) from rfl, HT.sIx_nat, List.drop_zero]
    exact List.take_of_length_le (by simp; omega)]
  refine ev_loop0 (fun k δ => ∃ q2 q4 : Sl, ∃ D M : Int, δ = [.fz (ns.map PyData.int), .im (.int D), .im (.int M), q2, q4] ∧ 0 ≤ D ∧ D < 2 ^ (200 * k + 1) ∧ 0 ≤ M ∧ M < 10 ^ 40) ⟨_, _, _, _, rfl, by omega, by decide, by omega, by omega⟩ (fun i d δ hd h' => ?_) fun δ h' => ?_
  · obtain ⟨q2, q4, D, M, rfl, d0, d1, m0, m1⟩ := h'
    have hil : i < ns.length := by
      have := (List.getElem?_eq_some_iff.mp hd).1
      simpa using this
    rw [List.getElem?_map] at hd
    obtain ⟨u, hx, rfl⟩ := Option.map_eq_some_iff.mp hd
    clear hd
    have hp : (2 : Int) ^ (200 * i + 1) * 2 ^ 200 = 2 ^ (200 * (i + 1) + 1) := by rw [← Int.pow_add]; congr 1
    have hp0 : (0 : Int) < 2 ^ (200 * i + 1) := Int.pow_pos (by decide)
    have hw : (2 : Int) ^ (200 * i + 1) < 2 ^ 20000 ∧ (2 : Int) ^ (200 * i + 1) ≤ 2 ^ (200 * (i + 1) + 1) := by
      have e : ∀ {a b : Nat}, a ≤ b → (2 : Int) ^ a ≤ 2 ^ b := fun {a b} g => by
        obtain ⟨k, rfl⟩ := Nat.exists_eq_add_of_le g
        rw [Int.pow_add]
        have h1 : (0 : Int) < 2 ^ a := Int.pow_pos (by decide)
        have h2 : (0 : Int) < 2 ^ k := Int.pow_pos (by decide)
        have := Int.mul_le_mul_of_nonneg_left (show (1 : Int) ≤ 2 ^ k by omega) (show (0 : Int) ≤ 2 ^ a by omega)
        omega
      have h1 := e (show 200 * i + 1 ≤ 19999 by omega)
      have h2 : (2 : Int) ^ 20000 = 2 ^ 19999 * 2 := Int.pow_succ ..
      have h3 : (0 : Int) < 2 ^ 19999 := Int.pow_pos (by decide)
      have h4 := e (show 200 * i + 1 ≤ 200 * (i + 1) + 1 by omega)
      generalize (2 : Int) ^ 19999 = z at *
      generalize (2 : Int) ^ 20000 = zz at *
      omega
    have hmo : MulOk D 1000000000000000000000000000000000000000000000000000000000000 := mul_ok (a := 200 * i + 1) (b := 200) (by omega) d1 (by decide) (by decide) (by omega)
    have hbig : D * 1000000000000000000000000000000000000000000000000000000000000 < 2 ^ (200 * (i + 1) + 1) - 10 ^ 60 ∧ 0 ≤ D * 1000000000000000000000000000000000000000000000000000000000000 := by
      rw [← hp]
      have : (1606938044258990275541962092341162602522202993782792835301376 : Int) = 2 ^ 200 := by decide +kernel
      rw [← this]
      constructor
      · omega
      · omega
    obtain ⟨hw1, hw2⟩ := hw
    clear hp
    generalize (2 : Int) ^ (200 * (i + 1) + 1) = B at *
    generalize (2 : Int) ^ (200 * i + 1) = B0 at *
    generalize (2 : Int) ^ 20000 = B2 at *
    walk_at "go"
    refine br_mk (fun hc => ?_) fun hc => ?_
    · walk_at "go"
      exact ⟨_, _, _, _, rfl, by omega, by omega, by omega, by omega⟩
    · walk_at "go"
      exact ⟨_, _, _, _, rfl, by omega, by omega, by omega, by omega⟩
  · obtain ⟨q2, q4, D, M, rfl, d0, d1, m0, m1⟩ := h'
    walk_at "go"
    exact ⟨_, rfl, _, _, _, rfl, d0, m0, m1, by omega, by omega⟩
theorem tens_eq {n : Int} (h0 : 0 ≤ n) (h1 : n ≤ 600) : m_tens [.im (.int n)] = some (.im (.int (10 ^ n.toNat)), [.im (.int n)]) := by
  refine Ev.eq ?_
  unfold m_tens
  walk_at "go"
  have e : intText? (SX.S ([49] ++ List.replicate n.toNat 48)) = some ((10 ^ n.toNat : Nat) : Int) := by
    rw [← SX.S_cat, ← repS_dig]; exact ten_text _ (by omega)
  refine Ev.of e ?_
  walk_at "go"
  rw [Int.natCast_pow]
  rfl
theorem kindS_spec {m : Nat} {j : List PyData} {most : Int} (hj : Jar m j) (hm : m ≤ 10 ^ 14) (h0 : 1 ≤ most) (h1 : most ≤ 40) :
    Ev (m_kind [.bx .l j, .im (.int most)]) fun y => ∃ w s r j', y = (.im (Mc w s r), [.bx .l j', .im (.int most)]) ∧ Good w s r ∧ w ≤ most ∧ Jar (m + 20) j' := by
  unfold m_kind
  walk_at "go"
  refine (drawS_spec hj (by omega) (by omega) (by omega)).mono ?_
  rintro _ ⟨r1, j_r1, rfl, r10, r11, hj⟩
  walk_at "go"
  refine (drawS_spec hj (by omega) (by omega) (by omega)).mono ?_
  rintro _ ⟨r2, j_r2, rfl, r20, r21, hj⟩
  walk_at "go"
  first | refine sel1 (by omega) (by omega) ?_ | refine sel2 (by omega) (by omega) ?_ | refine sel3 (by omega) (by omega) ?_ | refine sel4 (by omega) (by omega) ?_ | refine sel5 (by omega) (by omega) ?_ | refine sel6 (by omega) (by omega) ?_ | refine sel7 (by omega) (by omega) ?_ | refine sel8 (by omega) (by omega) ?_
  intro b hs_b
  have bl : 1 ≤ b := by omega
  have bh : b ≤ (1 + r1) := by omega
  clear hs_b
  walk_at "go"
  refine (drawS_spec hj (by omega) (by omega) (by omega)).mono ?_
  rintro _ ⟨r3, j_r3, rfl, r30, r31, hj⟩
  walk_at "go"
  refine (drawS_spec hj (by omega) (by omega) (by omega)).mono ?_
  rintro _ ⟨r4, j_r4, rfl, r40, r41, hj⟩
  walk_at "go"
  refine (drawS_spec hj (by omega) (by omega) (by omega)).mono ?_
  rintro _ ⟨r5, j_r5, rfl, r50, r51, hj⟩
  walk_at "go"
  first | refine sel1 (by omega) (by omega) ?_ | refine sel2 (by omega) (by omega) ?_ | refine sel3 (by omega) (by omega) ?_ | refine sel4 (by omega) (by omega) ?_ | refine sel5 (by omega) (by omega) ?_ | refine sel6 (by omega) (by omega) ?_ | refine sel7 (by omega) (by omega) ?_ | refine sel8 (by omega) (by omega) ?_
  intro q hs_q
  have ql : 0 ≤ q := by omega
  have qh : q ≤ (1 + r1) := by omega
  clear hs_q
  walk_at "go"
  refine ⟨1 + r1, 1 + r3, _, _, rfl, ⟨by omega, by omega, by omega, by omega, by omega, by omega⟩, by omega, hj.mono (by omega)⟩
theorem edgeS_eq (w s r p : Int) : m_edge [.im (Mc w s r), .im (.int p)] = some (.im (.int (edge w s r p)), [.im (Mc w s r), .im (.int p)]) := by
  refine Ev.eq ?_
  unfold m_edge edge
  walk_at "go"
theorem figureS_spec {m : Nat} {j : List PyData} {w s r : Int} (hj : Jar m j) (hm : m ≤ 10 ^ 14) (h : Good w s r) :
    Ev (m_figure [.bx .l j, .im (Mc w s r)]) fun y => ∃ a j', y = (.im (.int a), [.bx .l j', .im (Mc w s r)]) ∧ 0 ≤ a ∧ a < 10 ^ s.toNat ∧ Jar (m + 10) j' := by
  have hw := h.w2
  have hs := h.s1
  have hs2 := h.s2
  have hT := p10 s.toNat
  have hT2 := p10_lt (n := s.toNat) (m := 120) (by omega)
  unfold m_figure
  walk_at "go"
  rw [tens_eq (by omega) (by omega)]
  walk_at "go"
  generalize hTe : (10 : Int) ^ s.toNat = T at *
  walk_at "go"
  refine (drawS_spec hj (by omega) (by omega) (by omega)).mono ?_
  rintro _ ⟨r1, j_r1, rfl, r10, r11, hj⟩
  walk_at "go"
  refine (drawS_spec hj (by omega) (by omega) (by omega)).mono ?_
  rintro _ ⟨r2, j_r2, rfl, r20, r21, hj⟩
  walk_at "go"
  refine (drawS_spec hj (by omega) (by omega) (by omega)).mono ?_
  rintro _ ⟨r3, j_r3, rfl, r30, r31, hj⟩
  walk_at "go"
  rw [tens_eq (by omega) (by omega)]
  walk_at "go"
  have hU := p10 r3.toNat
  generalize (10 : Int) ^ r3.toNat = U at *
  walk_at "go"
  refine (drawS_spec hj (by omega) (by omega) (by omega)).mono ?_
  rintro _ ⟨r4, j_r4, rfl, r40, r41, hj⟩
  walk_at "go"
  first | refine sel4 (by omega) (by omega) ?_ | skip
  intro x hx
  walk_at "go"
  exact ⟨_, _, rfl, Int.emod_nonneg _ (by omega), Int.emod_lt_of_pos _ hT, hj.mono (by omega)⟩
end
section
local macro_rules | `(tactic| walk_at "kn") => `(tactic| simp (discharger := walk_at "dis") only [ev_dDIn, ev_dDGet, keyOf_str, imS_im])
theorem require_setting_ok {w s r a : Int} (h : Good w s r) (h0 : 0 ≤ a) (h1 : a < 10 ^ s.toNat) : m_require_setting [.im (Mc w s r), .im (.int a)] = some (.im .none, [.im (Mc w s r), .im (.int a)]) := by
  have hs := h.s1
  have hs2 := h.s2
  have hw := h.w2
  have hS2 := p10_lt (n := s.toNat) (m := 120) (by omega)
  refine Ev.eq ?_
  unfold m_require_setting
  walk_at "go"
  rw [ten_power_eq (by omega) (by omega)]
  walk_at "go"
  rw [is_between_eq]
  walk_at "go"
  refine br_neg (by simp; omega) ?_
  walk_at "go"
def turnTo (A M v t : Int) : Int := v - v % M + (v % M + A * t) % M
theorem turnTo_div {A M v t : Int} (M1 : 1 ≤ M) : turnTo A M v t = M * (v / M) + (v % M + A * t) % M ∧ turnTo A M v t / M = v / M ∧ turnTo A M v t % M = (v % M + A * t) % M := by
  have h0 := Int.emod_nonneg (v % M + A * t) (show M ≠ 0 by omega)
  have h1 := Int.emod_lt_of_pos (v % M + A * t) (show 0 < M by omega)
  have hv := Int.emod_add_mul_ediv v M
  unfold turnTo
  generalize (v % M + A * t) % M = z at *
  have e : v - v % M + z = M * (v / M) + z := by omega
  refine ⟨e, ?_, ?_⟩
  · rw [e, Int.add_comm, Int.add_mul_ediv_left _ _ (by omega), Int.ediv_eq_zero_of_lt h0 h1, Int.zero_add]
  · rw [e, Int.add_comm, Int.add_mul_emod_self_left, Int.emod_eq_of_lt h0 h1]
theorem turnTo_in {A v t : Int} {e w : Nat} (he : e ≤ w) (v0 : 0 ≤ v) (v1 : v < 10 ^ w) : 0 ≤ turnTo A (10 ^ e) v t ∧ turnTo A (10 ^ e) v t < 10 ^ w := by
  have hE := p10 e
  obtain ⟨e1, e2, e3⟩ := turnTo_div (A := A) (v := v) (t := t) (show 1 ≤ (10 : Int) ^ e by omega)
  have h0 := Int.emod_nonneg (v % 10 ^ e + A * t) (show (10 : Int) ^ e ≠ 0 by omega)
  have h1 := Int.emod_lt_of_pos (v % 10 ^ e + A * t) hE
  have hq := Int.ediv_nonneg v0 (show (0 : Int) ≤ 10 ^ e by omega)
  have hw : (10 : Int) ^ w = 10 ^ e * 10 ^ (w - e) := by rw [← Int.pow_add]; congr 1; omega
  have hq2 : v / 10 ^ e < 10 ^ (w - e) := Int.ediv_lt_of_lt_mul hE (by rw [Int.mul_comm, ← hw]; exact v1)
  rw [e1]
  generalize (v % 10 ^ e + A * t) % 10 ^ e = z at *
  generalize v / 10 ^ e = q at *
  rw [hw]
  generalize (10 : Int) ^ e = E at *
  have h2 : 0 ≤ E * q := Int.mul_nonneg (by omega) hq
  have h3 : E * (q + 1) ≤ E * 10 ^ (w - e) := Int.mul_le_mul_of_nonneg_left (by omega) (by omega)
  rw [Int.mul_add, Int.mul_one] at h3
  omega
theorem amt1 {w s r a p : Int} (h : Good w s r) (a0 : 0 ≤ a) (a1 : a < 10 ^ s.toNat) (p0 : 0 ≤ p) (p1 : p ≤ w - s) : 0 ≤ a * 10 ^ p.toNat ∧ a * 10 ^ p.toNat < 10 ^ (edge w s r p).toNat := by
  have hs := h.s1
  have hr := h.r1
  have hP := p10 p.toNat
  have h1 : a * 10 ^ p.toNat < 10 ^ s.toNat * 10 ^ p.toNat := Int.mul_lt_mul_of_pos_right a1 hP
  rw [← Int.pow_add] at h1
  have h2 : (10 : Int) ^ (s.toNat + p.toNat) ≤ 10 ^ (edge w s r p).toNat := p10_le (by unfold edge; split <;> omega)
  exact ⟨Int.mul_nonneg a0 (by omega), by omega⟩
end
section
local macro_rules | `(tactic| walk_at "kn") => `(tactic| simp (discharger := walk_at "dis") only [ev_dDIn, ev_dDGet, keyOf_str, imS_im])
theorem ev_sForApp (i : Nat) (F1 F2 : Ex) {δ : List Sl} {U : Fl × List Sl → Prop} : Ev (sForApp i F1 F2 δ) U = Ev (F1 δ) fun x => Ev (owQ x.1) fun ds1 => Ev (F2 x.2) fun y => Ev (owQ y.1) fun ds2 =>
    Gd (ds1.length < LINE ∧ ds2.length < LINE ∧ i < y.2.length) (U (.nx, y.2.set i (.bx .l (ds2 ++ [.none])))) := by
  simp only [e0, b0, g0, sForApp, x_bind, x_gd, x_some]
theorem owQ_ow (ds : List PyData) : owQ (.bx .l ds) = some ds := rfl
def lenOS : Sl → Option Int
  | .im (.int n) => if 0 ≤ n ∧ n < 2 ^ 63 then some n else none
  | _ => none
theorem ev_lenOS (n : Int) {Q : Int → Prop} : Ev (lenOS (.im (.int n))) Q = Gd (0 ≤ n ∧ n < 2 ^ 63) (Q n) := by
  show Ev (if 0 ≤ n ∧ n < 2 ^ 63 then some n else none) Q = _
  rw [ev_gd, ev_some]
theorem ev_dLenO (fn : Fn) (i : Nat) {δ : List Sl} {S : Sl × List Sl → Prop} : Ev (dLenO fn i δ) S = Ev (dMeth "__len__" fn i [] δ) fun y => Ev (lenOS y.1) fun n => S (.im (.int n), y.2) := by
  unfold dLenO
  rw [ev_bind]
  refine congrArg (fun f => Ev _ f) (funext fun y => ?_)
  obtain ⟨r, d⟩ := y
  cases r with
  | im x =>
    cases x with
    | int n =>
      show Ev (if 0 ≤ n ∧ n < 2 ^ 63 then _ else none) S = Ev (if 0 ≤ n ∧ n < 2 ^ 63 then some n else none) _
      rw [ev_gd, ev_gd, ev_some, ev_some]
    | _ => exact ev_none.trans ev_none.symm
  | _ => exact ev_none.trans ev_none.symm
local macro_rules | `(tactic| walk_at "kn") => `(tactic| simp (discharger := walk_at "dis") only [ev_dDIn, ev_dDGet, keyOf_str, imS_im, ev_sForApp, owQ_ow, ev_lenOS, ev_dLenO])
def Lo (k : Nat) (d : PyData) : Prop := d.canLay0 = true ∧ d.depth ≤ k
theorem lo_int (k : Nat) (i : Int) : Lo k (.int i) := ⟨by simp only [PyData.canLay0], by simp only [PyData.depth]; omega⟩
theorem lo_str (k : Nat) (i : Str) (h : PyData.strOk i = true) : Lo k (.str i) := ⟨by simp only [PyData.canLay0, h], by simp only [PyData.depth]; omega⟩
theorem lo_all {k : Nat} : ∀ {ds : List PyData}, (∀ d ∈ ds, Lo k d) → PyData.canLayAll0 ds = true ∧ PyData.depthAll ds ≤ k
  | [], _ => ⟨by simp only [PyData.canLayAll0], by simp only [PyData.depthAll]; omega⟩
  | d :: ds, h => by
    obtain ⟨h1, h2⟩ := lo_all (ds := ds) fun e he => h e (List.mem_cons_of_mem _ he)
    have g := h d (List.mem_cons_self ..)
    have g2 := g.2
    exact ⟨by simp only [PyData.canLayAll0, g.1, h1, Bool.and_self], by simp only [PyData.depthAll]; omega⟩
theorem lo_list {k : Nat} {ds : List PyData} (h : ∀ d ∈ ds, Lo k d) : Lo (k + 1) (.list ds) := by
  obtain ⟨h1, h2⟩ := lo_all h
  exact ⟨by simpa only [PyData.canLay0] using h1, by simp only [PyData.depth]; omega⟩
theorem lo_tup {k : Nat} {ds : List PyData} (h : ∀ d ∈ ds, Lo k d) : Lo (k + 1) (.tuple ds) := by
  obtain ⟨h1, h2⟩ := lo_all h
  exact ⟨by simpa only [PyData.canLay0] using h1, by simp only [PyData.depth]; omega⟩
theorem Lo.shaped {k : Nat} {d : PyData} (h : Lo k d) (hk : k ≤ 64) : SeqAt.shaped d = true := by
  unfold SeqAt.shaped
  rw [h.1, Bool.true_and, decide_eq_true_eq]
  exact Nat.le_trans h.2 hk
theorem lo_ints (k : Nat) (ns : List Int) : ∀ d ∈ ns.map PyData.int, Lo k d := by
  intro d hd
  obtain ⟨i, _, rfl⟩ := List.mem_map.mp hd
  exact lo_int k i
def rowLv (c : PyData) (v : Int) (ws : List Int) (a p b : Int) : PyData := .tuple [c, .int v, .list (ws.map PyData.int), .int a, .int p, .int b]
def stLv (v : Int) (ws : List Int) (a p b : Int) : PyData := .tuple [.int v, .list (ws.map PyData.int), .int a, .int p, .int b]
theorem lo_row {c : PyData} {v : Int} {ws : List Int} {a p b : Int} (hc : Lo 1 c) : Lo 2 (rowLv c v ws a p b) :=
  lo_tup (allc hc (allc (lo_int _ _) (allc (lo_list (lo_ints 0 ws)) (allc (lo_int _ _) (allc (lo_int _ _) (allc (lo_int _ _) alln))))))
def Ob (w s r : Int) (cs : List PyData) : Sl := .bx (.o ["kept_machine", "kept_calls"]) [Mc w s r, .list cs]
structure Live (m : Nat) (w s r : Int) (cs : List PyData) (v : Int) (ws : List Int) (a p b : Int) : Prop where
  ln : cs.length ≤ m
  wl : ws.length = (w - s + 1).toNat
  lo : ∀ c ∈ cs, Lo 2 c
  st : (cs = [] ∧ v = 0 ∧ ws = List.replicate (w - s + 1).toNat 0 ∧ a = 0 ∧ p = 0 ∧ b = 0) ∨ ∃ cs0 c, cs = cs0 ++ [rowLv c v ws a p b]
theorem Live.mono {m n : Nat} {w s r : Int} {cs : List PyData} {v : Int} {ws : List Int} {a p b : Int} (L : Live m w s r cs v ws a p b) (h : m ≤ n) : Live n w s r cs v ws a p b := ⟨Nat.le_trans L.ln h, L.wl, L.lo, L.st⟩
theorem Live.snoc {m : Nat} {w s r : Int} {cs : List PyData} {v : Int} {ws : List Int} {a p b : Int} (L : Live m w s r cs v ws a p b) {c : PyData} (hc : Lo 1 c) {v' : Int} {ws' : List Int} {a' p' b' : Int} (hw : ws'.length = (w - s + 1).toNat) :
    Live (m + 1) w s r (cs ++ [rowLv c v' ws' a' p' b']) v' ws' a' p' b' := by
  refine ⟨by have := L.ln; simp; omega, hw, fun d hd => ?_, .inr ⟨_, _, rfl⟩⟩
  rcases List.mem_append.mp hd with h | h
  · exact L.lo d h
  · cases h with
    | head => exact lo_row hc
    | tail _ z => cases z
theorem live_nil {w s r : Int} : Live 0 w s r [] 0 (List.replicate (w - s + 1).toNat 0) 0 0 0 := ⟨Nat.le_refl _, by simp, fun c h => (nomatch h), .inl ⟨rfl, rfl, rfl, rfl, rfl, rfl⟩⟩
theorem rep0 (n : Nat) : (List.replicate n [PyData.int 0]).flatten = (List.replicate n (0 : Int)).map PyData.int := by
  induction n with
  | zero => rfl
  | succ n ih => rw [List.replicate_succ, List.replicate_succ, List.flatten_cons, ih]; rfl
theorem eqv_snoc (cs : List PyData) (c : PyData) : PyData.eqvAll (cs ++ [c]) [] = false := by cases cs <;> simp [PyData.eqvAll]
theorem last_row (cs : List PyData) (c : PyData) : atI (cs ++ [c]) (-1) = some c := by
  unfold atI ixN
  have h1 : -((cs ++ [c]).length : Int) ≤ -1 := by simp only [List.length_append, List.length_cons, List.length_nil]; omega
  have h2 : ((-1 : Int) + ((cs ++ [c]).length : Nat)).toNat = cs.length := by simp only [List.length_append, List.length_cons, List.length_nil]; omega
  rw [if_neg (by omega), if_pos h1, h2]
  simp
theorem cut1 (c a b d e f : PyData) : cutD [c, a, b, d, e, f] (some 1) none = [a, b, d, e, f] := by
  unfold cutD
  rw [HT.sIx_none, show (some (1 : Int)) = some ((1 : Nat) : Int) from rfl, HT.sIx_nat]
  rfl
theorem init_ok {w s r : Int} (h : Good w s r) : m_o_init [.bx (.o []) [], .im (Mc w s r)] = some (.im .none, [Ob w s r [], .im (Mc w s r)]) := by
  refine Ev.eq ?_
  unfold m_o_init
  walk_at "go"
  rw [require_machine_ok h]
  walk_at "go"
  rfl
theorem state_ok {m : Nat} {w s r : Int} {cs : List PyData} {v : Int} {ws : List Int} {a p b : Int} (h : Good w s r) (L : Live m w s r cs v ws a p b) : m_o_state_now [Ob w s r cs] = some (.im (stLv v ws a p b), [Ob w s r cs]) := by
  have hs := h.s1
  have hs2 := h.s2
  have hw := h.w2
  refine Ev.eq ?_
  unfold m_o_state_now Ob
  rcases L.st with ⟨rfl, rfl, rfl, rfl, rfl, rfl⟩ | ⟨cs0, c, rfl⟩
  · walk_at "go"
    rw [places_of_eq]
    walk_at "go"
    rw [rep0]
    rfl
  · walk_at "go"
    refine gd_mk ⟨(lo_list L.lo).shaped (by omega), by decide⟩ ?_
    rw [eqv_snoc]
    walk_at "go"
    rw [last_row]
    walk_at "go"
    unfold rowLv
    walk_at "go"
    rw [cut1]
    rfl
theorem keep_ok {w s r : Int} {cs : List PyData} {c a b d e f : PyData} (hl : cs.length ≤ 1000000) :
    m_o_keep [Ob w s r cs, .im c, .im (.tuple [a, b, d, e, f])] = some (.im .none, [Ob w s r (cs ++ [.tuple [c, a, b, d, e, f]]), .im c, .im (.tuple [a, b, d, e, f])]) := by
  refine Ev.eq ?_
  unfold m_o_keep Ob
  walk_at "go"
  refine gd_mk (by simp only [List.length_append, List.length_cons, List.length_nil]; omega) ?_
  walk_at "go"
  all_goals rfl
theorem display_ok {m : Nat} {w s r : Int} {cs : List PyData} {v : Int} {ws : List Int} {a p b : Int} (h : Good w s r) (L : Live m w s r cs v ws a p b) : m_o_display [Ob w s r cs] = some (.im (.int v), [Ob w s r cs]) := by
  have e1 := state_ok h L
  refine Ev.eq ?_
  unfold m_o_display
  unfold Ob at *
  walk_at "go"
  rw [e1]
  walk_at "go"
  unfold stLv
  walk_at "go"
  all_goals rfl
theorem bells_ok {m : Nat} {w s r : Int} {cs : List PyData} {v : Int} {ws : List Int} {a p b : Int} (h : Good w s r) (L : Live m w s r cs v ws a p b) : m_o_bells [Ob w s r cs] = some (.im (.int b), [Ob w s r cs]) := by
  have e1 := state_ok h L
  refine Ev.eq ?_
  unfold m_o_bells
  unfold Ob at *
  walk_at "go"
  rw [e1]
  walk_at "go"
  unfold stLv
  walk_at "go"
  all_goals rfl
theorem setting_ok {m : Nat} {w s r : Int} {cs : List PyData} {v : Int} {ws : List Int} {a p b : Int} (h : Good w s r) (L : Live m w s r cs v ws a p b) : m_o_setting [Ob w s r cs] = some (.im (.int a), [Ob w s r cs]) := by
  have e1 := state_ok h L
  refine Ev.eq ?_
  unfold m_o_setting
  unfold Ob at *
  walk_at "go"
  rw [e1]
  walk_at "go"
  unfold stLv
  walk_at "go"
  all_goals rfl
theorem place_ok {m : Nat} {w s r : Int} {cs : List PyData} {v : Int} {ws : List Int} {a p b : Int} (h : Good w s r) (L : Live m w s r cs v ws a p b) : m_o_place [Ob w s r cs] = some (.im (.int p), [Ob w s r cs]) := by
  have e1 := state_ok h L
  refine Ev.eq ?_
  unfold m_o_place
  unfold Ob at *
  walk_at "go"
  rw [e1]
  walk_at "go"
  unfold stLv
  walk_at "go"
  all_goals rfl
theorem counterL_ok {m : Nat} {w s r : Int} {cs : List PyData} {v : Int} {ws : List Int} {a p b : Int} (h : Good w s r) (L : Live m w s r cs v ws a p b) : m_o_counter [Ob w s r cs] = some (.bx .l (ws.map PyData.int), [Ob w s r cs]) := by
  have e1 := state_ok h L
  refine Ev.eq ?_
  unfold m_o_counter
  unfold Ob at *
  walk_at "go"
  rw [e1]
  walk_at "go"
  unfold stLv
  walk_at "go"
  all_goals rfl
theorem cutTo {l : List PyData} {p : Int} (h : 0 ≤ p) (h2 : p ≤ l.length) : cutD l none (some p) = l.take p.toNat := by
  obtain ⟨P, rfl⟩ : ∃ P : Nat, p = P := ⟨p.toNat, by omega⟩
  unfold cutD
  rw [HT.sIx_none, HT.sIx_nat, List.drop_zero, Nat.sub_zero, Int.toNat_natCast, Nat.min_eq_left (by omega)]
theorem cutOn {l : List PyData} {p : Int} (h : 0 ≤ p) (h2 : p ≤ l.length) : cutD l (some p) none = l.drop p.toNat := by
  obtain ⟨P, rfl⟩ : ∃ P : Nat, p = P := ⟨p.toNat, by omega⟩
  unfold cutD
  rw [HT.sIx_none, HT.sIx_nat, Int.toNat_natCast, Nat.min_eq_left (by omega)]
  exact List.take_of_length_le (by rw [List.length_drop]; omega)
theorem set_parts (ws : List Int) (P : Nat) (x : Int) (h : P < ws.length) : (ws.map PyData.int).take P ++ .int x :: (ws.map PyData.int).drop (P + 1) = (ws.set P x).map PyData.int := by
  rw [List.set_eq_take_append_cons_drop, if_pos h]
  simp
def ab (x : Int) : Int := if x < 0 then -x else x
theorem ab_nn (x : Int) : 0 ≤ ab x := by unfold ab; split <;> omega
end
section
local macro_rules | `(tactic| walk_at "kn") => `(tactic| simp (discharger := walk_at "dis") only [ev_dDIn, ev_dDGet, keyOf_str, imS_im, ev_sForApp, owQ_ow, ev_lenOS, ev_dLenO])
theorem turnedL_ok {w s r v a p t : Int} (h : Good w s r) (a0 : 0 ≤ a) (a1 : a < 10 ^ s.toNat) (p0 : 0 ≤ p) (p1 : p ≤ w - s) (v0 : 0 ≤ v) (v1 : v < 10 ^ w.toNat) (t1 : -(10 ^ 100) < t) (t2 : t < 10 ^ 100) :
    m_turned [.im (Mc w s r), .im (.int v), .im (.int a), .im (.int p), .im (.int t)] = some (.im (.tuple [.int (turnTo (a * 10 ^ p.toNat) (10 ^ (edge w s r p).toNat) v t), .int (ab ((v % 10 ^ (edge w s r p).toNat + a * 10 ^ p.toNat * t) / 10 ^ (edge w s r p).toNat))]), [.im (Mc w s r), .im (.int v), .im (.int a), .im (.int p), .im (.int t)]) := by
  have hs := h.s1
  have hs2 := h.s2
  have hw := h.w2
  have he := edge_pos (p := p) h p0
  have hE := p10 (edge w s r p).toNat
  have hE2 : (10 : Int) ^ (edge w s r p).toNat ≤ 10 ^ 40 := p10_le (by omega)
  have hP := p10 p.toNat
  have hP2 : (10 : Int) ^ p.toNat ≤ 10 ^ 40 := p10_le (by omega)
  have hS2 : (10 : Int) ^ s.toNat ≤ 10 ^ 40 := p10_le (by omega)
  have hW2 : (10 : Int) ^ w.toNat ≤ 10 ^ 40 := p10_le (by omega)
  have m1 := mul_bd2 (a := t) (b := a) (A := 10 ^ 100) (B := 10 ^ 40) (by omega) (by omega) (by omega) (by omega)
  have m2 := mul_bd2 (a := t * a) (b := 10 ^ p.toNat) (A := 10 ^ 140) (B := 10 ^ 40 + 1) (by omega) (by omega) (by omega) (by omega)
  have ec : t * a * 10 ^ p.toNat = a * 10 ^ p.toNat * t := by rw [Int.mul_comm t a, Int.mul_assoc, Int.mul_comm t, ← Int.mul_assoc]
  have hte := tens_eq (n := edge w s r p) (by omega) (by omega)
  have htp := tens_eq (n := p) (by omega) (by omega)
  refine Ev.eq ?_
  unfold m_turned
  walk_at "go"
  rw [edgeS_eq]
  walk_at "go"
  rw [hte]
  walk_at "go"
  rw [htp]
  walk_at "go"
  rw [ec]
  all_goals rfl
theorem set_okX {m : Nat} {w s r : Int} {cs : List PyData} {v : Int} {ws : List Int} {a p b x : Int} (h : Good w s r) (L : Live m w s r cs v ws a p b) (hm : m ≤ 1000000) (x0 : 0 ≤ x) (x1 : x < 10 ^ s.toNat) :
    m_o_set_to [Ob w s r cs, .im (.int x)] = some (.im .none, [Ob w s r (cs ++ [rowLv (.tuple [.str "set", .int x]) v ws x p b]), .im (.int x)]) ∧ Live (m + 1) w s r (cs ++ [rowLv (.tuple [.str "set", .int x]) v ws x p b]) v ws x p b := by
  refine ⟨Ev.eq ?_, L.snoc (c := .tuple [.str "set", .int x]) (lo_tup (allc (lo_str _ _ (by decide +kernel)) (allc (lo_int _ _) alln))) L.wl⟩
  have hs := h.s1
  have hs2 := h.s2
  have hw := h.w2
  have hS := p10 s.toNat
  have e1 := state_ok h L
  have e2 := require_setting_ok (w := w) (r := r) h x0 x1
  have e3 := fun (c a b d e f : PyData) => keep_ok (w := w) (s := s) (r := r) (c := c) (a := a) (b := b) (d := d) (e := e) (f := f) (Nat.le_trans L.ln hm)
  unfold m_o_set_to
  unfold Ob at *
  walk_at "go"
  rw [e2]
  walk_at "go"
  rw [e1]
  walk_at "go"
  unfold stLv
  walk_at "go"
  rw [e3]
  walk_at "go"
  all_goals rfl
theorem shift_okX {m : Nat} {w s r : Int} {cs : List PyData} {v : Int} {ws : List Int} {a p b x : Int} (h : Good w s r) (L : Live m w s r cs v ws a p b) (hm : m ≤ 1000000) (x0 : 0 ≤ x) (x1 : x ≤ w - s) :
    m_o_shift_to [Ob w s r cs, .im (.int x)] = some (.im .none, [Ob w s r (cs ++ [rowLv (.tuple [.str "shift", .int x]) v ws a x b]), .im (.int x)]) ∧ Live (m + 1) w s r (cs ++ [rowLv (.tuple [.str "shift", .int x]) v ws a x b]) v ws a x b := by
  refine ⟨Ev.eq ?_, L.snoc (c := .tuple [.str "shift", .int x]) (lo_tup (allc (lo_str _ _ (by decide +kernel)) (allc (lo_int _ _) alln))) L.wl⟩
  have e1 := state_ok h L
  have e2 := require_place_ok (w := w) (s := s) (r := r) x0 x1
  have e3 := fun (c a b d e f : PyData) => keep_ok (w := w) (s := s) (r := r) (c := c) (a := a) (b := b) (d := d) (e := e) (f := f) (Nat.le_trans L.ln hm)
  unfold m_o_shift_to
  unfold Ob at *
  walk_at "go"
  rw [e2]
  walk_at "go"
  rw [e1]
  walk_at "go"
  unfold stLv
  walk_at "go"
  rw [e3]
  walk_at "go"
  all_goals rfl
theorem turn_okX {m : Nat} {w s r : Int} {cs : List PyData} {v : Int} {ws : List Int} {a p b t : Int} (h : Good w s r) (L : Live m w s r cs v ws a p b) (hm : m ≤ 1000000) (a0 : 0 ≤ a) (a1 : a < 10 ^ s.toNat) (p0 : 0 ≤ p) (p1 : p ≤ w - s) (v0 : 0 ≤ v) (v1 : v < 10 ^ w.toNat)
    (t0 : t ≠ 0) (t1 : -(10 ^ 100) < t) (t2 : t < 10 ^ 100) (b0 : 0 ≤ b) (b1 : b < 10 ^ 240) :
    m_o_turn [Ob w s r cs, .im (.int t)] = some (.im .none, [Ob w s r (cs ++ [rowLv (.tuple [.str "turn", .int t]) (turnTo (a * 10 ^ p.toNat) (10 ^ (edge w s r p).toNat) v t) (ws.set p.toNat ((ws.getD p.toNat 0 + t) % 10)) a p (b + ab ((v % 10 ^ (edge w s r p).toNat + a * 10 ^ p.toNat * t) / 10 ^ (edge w s r p).toNat))]), .im (.int t)]) ∧
      Live (m + 1) w s r (cs ++ [rowLv (.tuple [.str "turn", .int t]) (turnTo (a * 10 ^ p.toNat) (10 ^ (edge w s r p).toNat) v t) (ws.set p.toNat ((ws.getD p.toNat 0 + t) % 10)) a p (b + ab ((v % 10 ^ (edge w s r p).toNat + a * 10 ^ p.toNat * t) / 10 ^ (edge w s r p).toNat))]) (turnTo (a * 10 ^ p.toNat) (10 ^ (edge w s r p).toNat) v t) (ws.set p.toNat ((ws.getD p.toNat 0 + t) % 10)) a p (b + ab ((v % 10 ^ (edge w s r p).toNat + a * 10 ^ p.toNat * t) / 10 ^ (edge w s r p).toNat)) := by
  refine ⟨Ev.eq ?_, L.snoc (c := .tuple [.str "turn", .int t]) (lo_tup (allc (lo_str _ _ (by decide +kernel)) (allc (lo_int _ _) alln))) (by rw [List.length_set]; exact L.wl)⟩
  have hs := h.s1
  have hs2 := h.s2
  have hw := h.w2
  have hwl := L.wl
  have e1 := state_ok h L
  have e3 := fun (c a b d e f : PyData) => keep_ok (w := w) (s := s) (r := r) (c := c) (a := a) (b := b) (d := d) (e := e) (f := f) (Nat.le_trans L.ln hm)
  have he := edge_pos (p := p) h p0
  have hE := p10 (edge w s r p).toNat
  have hE2 : (10 : Int) ^ (edge w s r p).toNat ≤ 10 ^ 40 := p10_le (by omega)
  have hP := p10 p.toNat
  have hP2 : (10 : Int) ^ p.toNat ≤ 10 ^ 40 := p10_le (by omega)
  have hS2 : (10 : Int) ^ s.toNat ≤ 10 ^ 40 := p10_le (by omega)
  have hW2 : (10 : Int) ^ w.toNat ≤ 10 ^ 40 := p10_le (by omega)
  have m1 := mul_bd2 (a := t) (b := a) (A := 10 ^ 100) (B := 10 ^ 40) (by omega) (by omega) (by omega) (by omega)
  have m2 := mul_bd2 (a := t * a) (b := 10 ^ p.toNat) (A := 10 ^ 140) (B := 10 ^ 40 + 1) (by omega) (by omega) (by omega) (by omega)
  have ec : t * a * 10 ^ p.toNat = a * 10 ^ p.toNat * t := by rw [Int.mul_comm t a, Int.mul_assoc, Int.mul_comm t, ← Int.mul_assoc]
  have hp2 : p.toNat < ws.length := by omega
  have hat : atI (ws.map PyData.int) p = some (.int (ws.getD p.toNat 0)) := by
    obtain ⟨x, h1, h2⟩ := atin (ws.map PyData.int) (i := p) p0 (by rw [List.length_map]; omega)
    rw [h2, ← h1, List.getElem?_map, List.getD_eq_getElem?_getD, List.getElem?_eq_getElem hp2]
    rfl
  have hPp : ((p.toNat : Nat) : Int) = p := Int.toNat_of_nonneg p0
  unfold m_o_turn
  unfold Ob at *
  walk_at "go"
  rw [is_integer_eq]
  walk_at "go"
  first | (refine br_pos ?bh ?_; (case bh => first | omega | (simp; omega) | (simp; done))) | (refine br_neg ?bh ?_; (case bh => first | omega | (simp; omega) | (simp; done))) | intro _
  walk_at "go"
  rw [e1]
  walk_at "go"
  unfold stLv
  walk_at "go"
  rw [edge_of_eq]
  walk_at "go"
  rw [ten_power_eq (n := edge w s r p) (by omega) (by omega)]
  walk_at "go"
  rw [ten_power_eq (n := p) (by omega) (by omega)]
  walk_at "go"
  rw [hat]
  walk_at "go"
  rw [cutTo p0 (by rw [List.length_map]; omega), cutOn (p := p + 1) (by omega) (by rw [List.length_map]; omega), show (p + 1).toNat = p.toNat + 1 by omega]
  refine gd_mk (by simp only [List.length_append, List.length_cons, List.length_nil, List.length_take, List.length_drop, List.length_map, LINE]; omega) ?_
  walk_at "go"
  rw [ec, set_parts _ _ _ hp2]
  rw [e3]
  walk_at "go"
  all_goals rfl
theorem clear_reg_okX {m : Nat} {w s r : Int} {cs : List PyData} {v : Int} {ws : List Int} {a p b : Int} (h : Good w s r) (L : Live m w s r cs v ws a p b) (hm : m ≤ 1000000) :
    m_o_clear_register [Ob w s r cs] = some (.im .none, [Ob w s r (cs ++ [rowLv (.tuple [.str "clear register"]) 0 ws a p b])]) ∧ Live (m + 1) w s r (cs ++ [rowLv (.tuple [.str "clear register"]) 0 ws a p b]) 0 ws a p b := by
  refine ⟨Ev.eq ?_, L.snoc (c := .tuple [.str "clear register"]) (lo_tup (allc (lo_str _ _ (by decide +kernel)) alln)) L.wl⟩
  have e1 := state_ok h L
  have e3 := fun (c a b d e f : PyData) => keep_ok (w := w) (s := s) (r := r) (c := c) (a := a) (b := b) (d := d) (e := e) (f := f) (Nat.le_trans L.ln hm)
  unfold m_o_clear_register
  unfold Ob at *
  walk_at "go"
  rw [e1]
  walk_at "go"
  unfold stLv
  walk_at "go"
  rw [e3]
  walk_at "go"
  all_goals rfl
theorem clear_cnt_okX {m : Nat} {w s r : Int} {cs : List PyData} {v : Int} {ws : List Int} {a p b : Int} (h : Good w s r) (L : Live m w s r cs v ws a p b) (hm : m ≤ 1000000) :
    m_o_clear_counter [Ob w s r cs] = some (.im .none, [Ob w s r (cs ++ [rowLv (.tuple [.str "clear counter"]) v (List.replicate (w - s + 1).toNat 0) a p b])]) ∧ Live (m + 1) w s r (cs ++ [rowLv (.tuple [.str "clear counter"]) v (List.replicate (w - s + 1).toNat 0) a p b]) v (List.replicate (w - s + 1).toNat 0) a p b := by
  refine ⟨Ev.eq ?_, L.snoc (c := .tuple [.str "clear counter"]) (lo_tup (allc (lo_str _ _ (by decide +kernel)) alln)) (by simp)⟩
  have hs := h.s1
  have hs2 := h.s2
  have hw := h.w2
  have e1 := state_ok h L
  have hwl := L.wl
  have e3 := fun (c a b d e f : PyData) => keep_ok (w := w) (s := s) (r := r) (c := c) (a := a) (b := b) (d := d) (e := e) (f := f) (Nat.le_trans L.ln hm)
  unfold m_o_clear_counter
  unfold Ob at *
  walk_at "go"
  rw [e1]
  walk_at "go"
  unfold stLv
  walk_at "go"
  rw [hwl]
  walk_at "go"
  rw [Int.toNat_natCast, rep0]
  rw [e3]
  walk_at "go"
  all_goals rfl
def stpL (w s r : Int) (x : Int × Int × List Int) (c : Int × Int × Int) : Int × Int × List Int :=
  (turnTo (c.1 * 10 ^ c.2.1.toNat) (10 ^ (edge w s r c.2.1).toNat) x.1 c.2.2, x.2.1 + ab ((x.1 % 10 ^ (edge w s r c.2.1).toNat + c.1 * 10 ^ c.2.1.toNat * c.2.2) / 10 ^ (edge w s r c.2.1).toNat), x.2.2.set c.2.1.toNat ((x.2.2.getD c.2.1.toNat 0 + c.2.2) % 10))
theorem ab_le {x M N : Int} (hM : 1 ≤ M) (h0 : -N ≤ x) (h1 : x ≤ N) : ab (x / M) ≤ N := by
  have hN : N ≤ N * M := by
    have := Int.mul_le_mul_of_nonneg_left hM (show 0 ≤ N by omega)
    omega
  have g1 : x / M ≤ N := Int.ediv_le_of_le_mul (by omega) (by omega)
  have g2 : -N ≤ x / M := Int.le_ediv_of_mul_le (by omega) (by rw [Int.neg_mul]; omega)
  unfold ab
  split <;> omega
theorem set_in {ws : List Int} {P : Nat} {x : Int} (hw : ∀ x ∈ ws, 0 ≤ x ∧ x < 10) (h0 : 0 ≤ x) (h1 : x < 10) : ∀ y ∈ ws.set P x, 0 ≤ y ∧ y < 10 := fun y hy => by
  rcases List.mem_or_eq_of_mem_set hy with z | z
  · exact hw y z
  · subst z; exact ⟨h0, h1⟩
structure StOk (w : Int) (B : Int) (x : Int × Int × List Int) : Prop where
  v0 : 0 ≤ x.1
  v1 : x.1 < 10 ^ w.toNat
  b0 : 0 ≤ x.2.1
  b1 : x.2.1 ≤ B
  ws : ∀ y ∈ x.2.2, 0 ≤ y ∧ y < 10
theorem StOk.mono {w B C : Int} {x : Int × Int × List Int} (X : StOk w B x) (h : B ≤ C) : StOk w C x := ⟨X.v0, X.v1, X.b0, Int.le_trans X.b1 h, X.ws⟩
theorem stp_ok {w s r B : Int} {x : Int × Int × List Int} {a p t : Int} (h : Good w s r) (X : StOk w B x) (a0 : 0 ≤ a) (a1 : a < 10 ^ s.toNat) (p0 : 0 ≤ p) (p1 : p ≤ w - s) (t1 : -(10 ^ 100) < t) (t2 : t < 10 ^ 100) : StOk w (B + 10 ^ 142) (stpL w s r x (a, p, t)) := by
  have hs := h.s1
  have hs2 := h.s2
  have hw := h.w2
  have he := edge_pos (p := p) h p0
  have hE := p10 (edge w s r p).toNat
  have hE2 : (10 : Int) ^ (edge w s r p).toNat ≤ 10 ^ 40 := p10_le (by omega)
  have hpe : (edge w s r p).toNat ≤ w.toNat := by omega
  have hA := amt1 h a0 a1 p0 p1
  have hm := mul_bd2 (a := a * 10 ^ p.toNat) (b := t) (A := 10 ^ 41) (B := 10 ^ 100) (by omega) (by omega) t1 t2
  have hv0 := Int.emod_nonneg x.1 (show (10 : Int) ^ (edge w s r p).toNat ≠ 0 by omega)
  have hv1 := Int.emod_lt_of_pos x.1 hE
  have hB := ab_le (x := x.1 % 10 ^ (edge w s r p).toNat + a * 10 ^ p.toNat * t) (M := 10 ^ (edge w s r p).toNat) (N := 10 ^ 142) (by omega) (by omega) (by omega)
  have hB0 := ab_nn ((x.1 % 10 ^ (edge w s r p).toNat + a * 10 ^ p.toNat * t) / 10 ^ (edge w s r p).toNat)
  have hV := turnTo_in (A := a * 10 ^ p.toNat) (v := x.1) (t := t) hpe X.v0 X.v1
  have b0 := X.b0
  have b1 := X.b1
  exact ⟨hV.1, hV.2, Int.add_nonneg b0 hB0, Int.add_le_add b1 hB, set_in X.ws (Int.emod_nonneg _ (by omega)) (Int.emod_lt_of_pos _ (by omega))⟩
theorem fork_ok {w s r : Int} {os : List PyData} (h : Good w s r) : m_o_fork [Ob w s r os] = some (Ob w s r os, [Ob w s r os]) := by
  refine Ev.eq ?_
  have e1 := init_ok h
  unfold m_o_fork
  unfold Ob at *
  walk_at "go"
  rw [e1]
  walk_at "go"
theorem cut_last (ds : List PyData) : cutD ds none (some (-1)) = ds.dropLast := by
  have e1 : HT.sIx ds.length 0 none = 0 := rfl
  have e2 : HT.sIx ds.length ds.length (some (-1)) = ds.length - 1 := by
    simp only [HT.sIx]
    rw [if_pos (by decide)]
    omega
  unfold cutD
  rw [e1, e2, List.drop_zero, Nat.sub_zero, List.dropLast_eq_take]
theorem undo_ok {w s r : Int} {os : List PyData} {c : PyData} (h : Good w s r) (hl : os.length ≤ 1000) (lo : ∀ d ∈ os ++ [c], Lo 2 d) : m_o_undo [Ob w s r (os ++ [c])] = some (.im .none, [Ob w s r os]) := by
  have hsh := (lo_list lo).shaped (by omega)
  refine Ev.eq ?_
  unfold m_o_undo
  unfold Ob at *
  walk_at "go"
  refine gd_mk ⟨hsh, rfl⟩ ?_
  rw [eqv_snoc]
  walk_at "go"
  rw [cut_last, List.dropLast_concat]
  walk_at "go"
def Rows (os : List PyData) : Prop := ∀ d ∈ os, ∃ c a b e f g, d = .tuple [c, a, b, e, f, g] ∧ Lo 1 c
theorem Rows.app {os ps : List PyData} (h : Rows os) (g : Rows ps) : Rows (os ++ ps) := fun d hd => (List.mem_append.mp hd).elim (h d) (g d)
theorem rows_nil : Rows [] := fun d h => nomatch h
theorem rows_one {c : PyData} {v : Int} {ws : List Int} {a p b : Int} (hc : Lo 1 c) : Rows [rowLv c v ws a p b] := fun d hd => by
  rw [List.mem_singleton.mp hd]
  exact ⟨_, _, _, _, _, _, rfl, hc⟩
def logD (os : List PyData) : List PyData := os.map fun d => match d with
  | .tuple (c :: _) => c
  | _ => .none
theorem log_ok {w s r : Int} {os : List PyData} (h : Good w s r) (hr : Rows os) (hl : os.length ≤ 1000) : m_o_log [Ob w s r os] = some (.bx .l (logD os), [Ob w s r os]) := by
  refine Ev.eq ?_
  unfold m_o_log
  unfold Ob
  walk_at "go"
  refine ev_lc0 (fun k acc δ => acc = logD (os.take k) ∧ ∃ q1, δ = [Ob w s r os, q1]) ⟨rfl, _, rfl⟩ (by omega) (fun i d acc δ hd h' => ?_) fun acc δ h' => ?_
  · obtain ⟨rfl, q1, rfl⟩ := h'
    obtain ⟨c, a, b, e', f, g, rfl, hc⟩ := hr d (List.mem_of_getElem? hd)
    unfold Ob
    rw [take_snoc hd]
    walk_at "go"
    unfold logD
    rw [List.map_append]
    exact ⟨rfl, _, rfl⟩
  · obtain ⟨rfl, q1, rfl⟩ := h'
    rw [List.take_length]
    unfold Ob
    walk_at "go"
theorem undo_drop {w s r : Int} {os : List PyData} (h : Good w s r) (hne : os ≠ []) (hl : os.length ≤ 1000) (lo : ∀ d ∈ os, Lo 2 d) : m_o_undo [Ob w s r os] = some (.im .none, [Ob w s r os.dropLast]) := by
  have e := List.dropLast_concat_getLast hne
  have := undo_ok (os := os.dropLast) (c := os.getLast hne) h (by rw [List.length_dropLast]; omega) (by rw [e]; exact lo)
  rwa [e] at this
end
section
local macro_rules | `(tactic| walk_at "kn") => `(tactic| simp (discharger := walk_at "dis") only [ev_dDIn, ev_dDGet, keyOf_str, imS_im, ev_sForApp, owQ_ow, ev_lenOS, ev_dLenO])
inductive Op where
  | setA (a : Int)
  | shiftP (p : Int)
  | turnT (t : Int)
  | clrR
  | clrC
def opD : Op → PyData
  | .setA a => .tuple [.str "set", .int a]
  | .shiftP p => .tuple [.str "shift", .int p]
  | .turnT t => .tuple [.str "turn", .int t]
  | .clrR => .tuple [.str "clear register"]
  | .clrC => .tuple [.str "clear counter"]
theorem wq01 : ((("set" : Str) = ("shift" : Str))) = False := eq_false (by decide +kernel)
theorem wq02 : ((("set" : Str) = ("turn" : Str))) = False := eq_false (by decide +kernel)
theorem wq03 : ((("set" : Str) = ("clear register" : Str))) = False := eq_false (by decide +kernel)
theorem wq10 : ((("shift" : Str) = ("set" : Str))) = False := eq_false (by decide +kernel)
theorem wq12 : ((("shift" : Str) = ("turn" : Str))) = False := eq_false (by decide +kernel)
theorem wq13 : ((("shift" : Str) = ("clear register" : Str))) = False := eq_false (by decide +kernel)
theorem wq20 : ((("turn" : Str) = ("set" : Str))) = False := eq_false (by decide +kernel)
theorem wq21 : ((("turn" : Str) = ("shift" : Str))) = False := eq_false (by decide +kernel)
theorem wq23 : ((("turn" : Str) = ("clear register" : Str))) = False := eq_false (by decide +kernel)
theorem wq30 : ((("clear register" : Str) = ("set" : Str))) = False := eq_false (by decide +kernel)
theorem wq31 : ((("clear register" : Str) = ("shift" : Str))) = False := eq_false (by decide +kernel)
theorem wq32 : ((("clear register" : Str) = ("turn" : Str))) = False := eq_false (by decide +kernel)
theorem wq40 : ((("clear counter" : Str) = ("set" : Str))) = False := eq_false (by decide +kernel)
theorem wq41 : ((("clear counter" : Str) = ("shift" : Str))) = False := eq_false (by decide +kernel)
theorem wq42 : ((("clear counter" : Str) = ("turn" : Str))) = False := eq_false (by decide +kernel)
theorem wq43 : ((("clear counter" : Str) = ("clear register" : Str))) = False := eq_false (by decide +kernel)
local macro_rules | `(tactic| walk_at "kn") => `(tactic| simp (discharger := walk_at "dis") only [ev_dDIn, ev_dDGet, keyOf_str, imS_im, ev_sForApp, owQ_ow, ev_lenOS, ev_dLenO, wq01, wq02, wq03, wq10, wq12, wq13, wq20, wq21, wq23, wq30, wq31, wq32, wq40, wq41, wq42, wq43])
structure StL where
  v : Int
  ws : List Int
  a : Int
  p : Int
  b : Int
def nxO (w s r : Int) (x : StL) : Op → StL
  | .setA a => ⟨x.v, x.ws, a, x.p, x.b⟩
  | .shiftP p => ⟨x.v, x.ws, x.a, p, x.b⟩
  | .turnT t => ⟨turnTo (x.a * 10 ^ x.p.toNat) (10 ^ (edge w s r x.p).toNat) x.v t, x.ws.set x.p.toNat ((x.ws.getD x.p.toNat 0 + t) % 10), x.a, x.p, x.b + ab ((x.v % 10 ^ (edge w s r x.p).toNat + x.a * 10 ^ x.p.toNat * t) / 10 ^ (edge w s r x.p).toNat)⟩
  | .clrR => ⟨0, x.ws, x.a, x.p, x.b⟩
  | .clrC => ⟨x.v, List.replicate (w - s + 1).toNat 0, x.a, x.p, x.b⟩
def st00 (w s : Int) : StL := ⟨0, List.replicate (w - s + 1).toNat 0, 0, 0, 0⟩
def runO (w s r : Int) (x : StL) (os : List Op) : StL := os.foldl (nxO w s r) x
theorem runO_snoc (w s r : Int) (x : StL) (os : List Op) (o : Op) : runO w s r x (os ++ [o]) = nxO w s r (runO w s r x os) o := by
  unfold runO; rw [List.foldl_append]; rfl
def rowO (x : StL) (o : Op) : PyData := rowLv (opD o) x.v x.ws x.a x.p x.b
def rowsO (w s r : Int) : StL → List Op → List PyData
  | _, [] => []
  | x, o :: os => rowO (nxO w s r x o) o :: rowsO w s r (nxO w s r x o) os
theorem rowsO_snoc (w s r : Int) : ∀ (os : List Op) (x : StL) (o : Op), rowsO w s r x (os ++ [o]) = rowsO w s r x os ++ [rowO (nxO w s r (runO w s r x os) o) o]
  | [], _, _ => rfl
  | d :: os, x, o => by
    show rowO (nxO w s r x d) d :: rowsO w s r (nxO w s r x d) (os ++ [o]) = _
    rw [rowsO_snoc w s r os (nxO w s r x d) o]
    rfl
theorem rowsO_len (w s r : Int) : ∀ (os : List Op) (x : StL), (rowsO w s r x os).length = os.length
  | [], _ => rfl
  | d :: os, x => by
    show (rowsO w s r (nxO w s r x d) os).length + 1 = _
    rw [rowsO_len w s r os]
    rfl
theorem rowsO_drop (w s r : Int) (os : List Op) (x : StL) : (rowsO w s r x os).dropLast = rowsO w s r x os.dropLast := by
  rcases List.eq_nil_or_concat os with rfl | ⟨l, o, rfl⟩
  · rfl
  · rw [List.concat_eq_append, rowsO_snoc, List.dropLast_concat, List.dropLast_concat]
theorem snoc_ind {α : Type} {P : List α → Prop} (h0 : P []) (h1 : ∀ l a, P l → P (l ++ [a])) : ∀ l, P l := by
  intro l
  rw [← List.reverse_reverse l]
  induction l.reverse with
  | nil => exact h0
  | cons a l ih => rw [List.reverse_cons]; exact h1 _ _ ih
theorem opD_lo : ∀ o : Op, Lo 1 (opD o)
  | .setA _ => lo_tup (allc (lo_str _ _ (by decide +kernel)) (allc (lo_int _ _) alln))
  | .shiftP _ => lo_tup (allc (lo_str _ _ (by decide +kernel)) (allc (lo_int _ _) alln))
  | .turnT _ => lo_tup (allc (lo_str _ _ (by decide +kernel)) (allc (lo_int _ _) alln))
  | .clrR => lo_tup (allc (lo_str _ _ (by decide +kernel)) alln)
  | .clrC => lo_tup (allc (lo_str _ _ (by decide +kernel)) alln)
def OB (w s r : Int) (os : List Op) : Sl := Ob w s r (rowsO w s r (st00 w s) os)
def stO' (w s r : Int) (os : List Op) : StL := runO w s r (st00 w s) os
theorem stO_snoc (w s r : Int) (os : List Op) (o : Op) : stO' w s r (os ++ [o]) = nxO w s r (stO' w s r os) o := runO_snoc ..
theorem OB_snoc (w s r : Int) (os : List Op) (o : Op) : OB w s r (os ++ [o]) = Ob w s r (rowsO w s r (st00 w s) os ++ [rowO (nxO w s r (stO' w s r os) o) o]) := by
  unfold OB; rw [rowsO_snoc]; rfl
def OkOp (w s : Int) : Op → Prop
  | .setA a => 0 ≤ a ∧ a < 10 ^ s.toNat
  | .shiftP p => 0 ≤ p ∧ p ≤ w - s
  | .turnT t => t ≠ 0 ∧ -(10 ^ 100) < t ∧ t < 10 ^ 100
  | .clrR => True
  | .clrC => True
def OkOps (w s : Int) (os : List Op) : Prop := ∀ o ∈ os, OkOp w s o
theorem OkOps.snoc {w s : Int} {os : List Op} {o : Op} (h : OkOps w s os) (g : OkOp w s o) : OkOps w s (os ++ [o]) := fun x hx => by
  rcases List.mem_append.mp hx with z | z
  · exact h x z
  · rw [List.mem_singleton.mp z]; exact g
structure SOk (w s B : Int) (x : StL) : Prop where
  v0 : 0 ≤ x.v
  v1 : x.v < 10 ^ w.toNat
  a0 : 0 ≤ x.a
  a1 : x.a < 10 ^ s.toNat
  p0 : 0 ≤ x.p
  p1 : x.p ≤ w - s
  b0 : 0 ≤ x.b
  b1 : x.b ≤ B
  wl : x.ws.length = (w - s + 1).toNat
  ws : ∀ y ∈ x.ws, 0 ≤ y ∧ y < 10
theorem SOk.mono {w s B C : Int} {x : StL} (X : SOk w s B x) (h : B ≤ C) : SOk w s C x := ⟨X.v0, X.v1, X.a0, X.a1, X.p0, X.p1, X.b0, Int.le_trans X.b1 h, X.wl, X.ws⟩
theorem rep_in (n : Nat) : ∀ y ∈ List.replicate n (0 : Int), 0 ≤ y ∧ y < 10 := fun y hy => by
  have := (List.mem_replicate.mp hy).2
  omega
theorem nxO_ok {w s r B : Int} {x : StL} (h : Good w s r) (X : SOk w s B x) (o : Op) (ho : OkOp w s o) : SOk w s (B + 10 ^ 142) (nxO w s r x o) := by
  have hB : B ≤ B + 10 ^ 142 := by omega
  have hw := p10 w.toNat
  cases o with
  | setA a => exact ⟨X.v0, X.v1, ho.1, ho.2, X.p0, X.p1, X.b0, Int.le_trans X.b1 hB, X.wl, X.ws⟩
  | shiftP p => exact ⟨X.v0, X.v1, X.a0, X.a1, ho.1, ho.2, X.b0, Int.le_trans X.b1 hB, X.wl, X.ws⟩
  | turnT t =>
    have := stp_ok (x := (x.v, x.b, x.ws)) h ⟨X.v0, X.v1, X.b0, X.b1, X.ws⟩ X.a0 X.a1 X.p0 X.p1 ho.2.1 ho.2.2
    exact ⟨this.v0, this.v1, X.a0, X.a1, X.p0, X.p1, this.b0, this.b1, by
      show (x.ws.set _ _).length = _
      rw [List.length_set]; exact X.wl, this.ws⟩
  | clrR => exact ⟨by show (0 : Int) ≤ 0; omega, hw, X.a0, X.a1, X.p0, X.p1, X.b0, Int.le_trans X.b1 hB, X.wl, X.ws⟩
  | clrC => exact ⟨X.v0, X.v1, X.a0, X.a1, X.p0, X.p1, X.b0, Int.le_trans X.b1 hB, List.length_replicate, rep_in _⟩
theorem stO_ok {w s r : Int} (h : Good w s r) : ∀ os : List Op, OkOps w s os → SOk w s (10 ^ 142 * os.length) (stO' w s r os) :=
  snoc_ind (P := fun os => OkOps w s os → SOk w s (10 ^ 142 * os.length) (stO' w s r os))
    (fun _ => by
      have hw := p10 w.toNat
      have hs := p10 s.toNat
      have := h.s2
      exact ⟨by show (0 : Int) ≤ 0; omega, hw, by show (0 : Int) ≤ 0; omega, hs, by show (0 : Int) ≤ 0; omega, by show (0 : Int) ≤ w - s; omega, by show (0 : Int) ≤ 0; omega, by show (0 : Int) ≤ _; omega, List.length_replicate, rep_in _⟩)
    (fun os o ih hk => by
      rw [stO_snoc]
      refine (nxO_ok h (ih fun x hx => hk x (List.mem_append_left _ hx)) o (hk o (by simp))).mono ?_
      rw [List.length_append, List.length_singleton]
      omega)
theorem liveOp {w s r : Int} (h : Good w s r) : ∀ os : List Op, Live os.length w s r (rowsO w s r (st00 w s) os) (stO' w s r os).v (stO' w s r os).ws (stO' w s r os).a (stO' w s r os).p (stO' w s r os).b :=
  snoc_ind (P := fun os => Live os.length w s r (rowsO w s r (st00 w s) os) (stO' w s r os).v (stO' w s r os).ws (stO' w s r os).a (stO' w s r os).p (stO' w s r os).b)
    live_nil
    (fun os o L => by
      rw [rowsO_snoc, stO_snoc]
      exact (L.snoc (opD_lo o) (v' := (nxO w s r (stO' w s r os) o).v) (ws' := (nxO w s r (stO' w s r os) o).ws) (a' := (nxO w s r (stO' w s r os) o).a) (p' := (nxO w s r (stO' w s r os) o).p) (b' := (nxO w s r (stO' w s r os) o).b) (by
        cases o with
        | turnT t => show (List.set _ _ _).length = _; rw [List.length_set]; exact L.wl
        | clrC => exact List.length_replicate
        | _ => exact L.wl)).mono (by rw [List.length_append, List.length_singleton]; omega))
theorem setO {w s r x : Int} {os : List Op} (h : Good w s r) (hl : os.length ≤ 1000) (ho : OkOp w s (.setA x)) : m_o_set_to [OB w s r os, .im (.int x)] = some (.im .none, [OB w s r (os ++ [.setA x]), .im (.int x)]) := by
  rw [OB_snoc]
  exact (set_okX h (liveOp h os) (by omega) ho.1 ho.2).1
theorem shiftO {w s r x : Int} {os : List Op} (h : Good w s r) (hl : os.length ≤ 1000) (ho : OkOp w s (.shiftP x)) : m_o_shift_to [OB w s r os, .im (.int x)] = some (.im .none, [OB w s r (os ++ [.shiftP x]), .im (.int x)]) := by
  rw [OB_snoc]
  exact (shift_okX h (liveOp h os) (by omega) ho.1 ho.2).1
theorem turnO {w s r x : Int} {os : List Op} (h : Good w s r) (hl : os.length ≤ 1000) (hk : OkOps w s os) (ho : OkOp w s (.turnT x)) : m_o_turn [OB w s r os, .im (.int x)] = some (.im .none, [OB w s r (os ++ [.turnT x]), .im (.int x)]) := by
  have X := stO_ok h os hk
  have b1 := X.b1
  have hb : (10 : Int) ^ 142 * (os.length : Int) ≤ 10 ^ 142 * 1000 := Int.mul_le_mul_of_nonneg_left (by omega) (by omega)
  rw [OB_snoc]
  exact (turn_okX (t := x) h (liveOp h os) (by omega) X.a0 X.a1 X.p0 X.p1 X.v0 X.v1 ho.1 ho.2.1 ho.2.2 X.b0 (by omega)).1
theorem clrRO {w s r : Int} {os : List Op} (h : Good w s r) (hl : os.length ≤ 1000) : m_o_clear_register [OB w s r os] = some (.im .none, [OB w s r (os ++ [.clrR])]) := by
  rw [OB_snoc]
  exact (clear_reg_okX h (liveOp h os) (by omega)).1
theorem clrCO {w s r : Int} {os : List Op} (h : Good w s r) (hl : os.length ≤ 1000) : m_o_clear_counter [OB w s r os] = some (.im .none, [OB w s r (os ++ [.clrC])]) := by
  rw [OB_snoc]
  exact (clear_cnt_okX h (liveOp h os) (by omega)).1
theorem displayO {w s r : Int} (h : Good w s r) (os : List Op) : m_o_display [OB w s r os] = some (.im (.int (stO' w s r os).v), [OB w s r os]) := display_ok h (liveOp h os)
theorem bellsO {w s r : Int} (h : Good w s r) (os : List Op) : m_o_bells [OB w s r os] = some (.im (.int (stO' w s r os).b), [OB w s r os]) := bells_ok h (liveOp h os)
theorem settingO {w s r : Int} (h : Good w s r) (os : List Op) : m_o_setting [OB w s r os] = some (.im (.int (stO' w s r os).a), [OB w s r os]) := setting_ok h (liveOp h os)
theorem placeO {w s r : Int} (h : Good w s r) (os : List Op) : m_o_place [OB w s r os] = some (.im (.int (stO' w s r os).p), [OB w s r os]) := place_ok h (liveOp h os)
theorem counterO {w s r : Int} (h : Good w s r) (os : List Op) : m_o_counter [OB w s r os] = some (.bx .l ((stO' w s r os).ws.map PyData.int), [OB w s r os]) := counterL_ok h (liveOp h os)
theorem rows_O (w s r : Int) : ∀ (os : List Op) (x : StL), Rows (rowsO w s r x os)
  | [], _ => rows_nil
  | o :: os, x => Rows.app (os := [_]) (rows_one (opD_lo o)) (rows_O w s r os _)
theorem logD_O (w s r : Int) : ∀ (os : List Op) (x : StL), logD (rowsO w s r x os) = os.map opD
  | [], _ => rfl
  | o :: os, x => by
    show opD o :: logD (rowsO w s r (nxO w s r x o) os) = _
    rw [logD_O w s r os]
    rfl
theorem logO {w s r : Int} (h : Good w s r) {os : List Op} (hl : os.length ≤ 1000) : m_o_log [OB w s r os] = some (.bx .l (os.map opD), [OB w s r os]) := by
  have := log_ok (os := rowsO w s r (st00 w s) os) h (rows_O w s r os _) (by rw [rowsO_len]; exact hl)
  rwa [logD_O] at this
theorem undoO {w s r : Int} (h : Good w s r) {os : List Op} (hne : os ≠ []) (hl : os.length ≤ 1000) : m_o_undo [OB w s r os] = some (.im .none, [OB w s r os.dropLast]) := by
  have := undo_drop (os := rowsO w s r (st00 w s) os) h (fun z => hne (by have := congrArg List.length z; rw [rowsO_len] at this; exact List.length_eq_zero_iff.mp this)) (by rw [rowsO_len]; exact hl) (liveOp h os).lo
  rw [rowsO_drop] at this
  exact this
theorem forkO {w s r : Int} (h : Good w s r) (os : List Op) : m_o_fork [OB w s r os] = some (OB w s r os, [OB w s r os]) := fork_ok h
theorem initO {w s r : Int} (h : Good w s r) : m_o_init [.bx (.o []) [], .im (Mc w s r)] = some (.im .none, [OB w s r [], .im (Mc w s r)]) := init_ok h
theorem nic_str (x : Str) (h : (PyData.shown (.str x)).length ≤ 260) (hs : PyData.strOk x = true) : Nic 0 260 (.str x) :=
  ⟨by simp only [PyData.showable], by simp only [PyData.hasDict], h, by simp only [PyData.depth]; omega, by simp only [PyData.canLay0, hs]⟩
theorem nic_op {w s : Int} (hs : s.toNat ≤ 40) (hw : w ≤ 40) (s1 : 1 ≤ s) : ∀ o : Op, OkOp w s o → Nic 1 527 (opD o)
  | .setA a, h => by
    have := h.1
    have := h.2
    have := p10_le hs
    exact nic_tup (n := 260) (allc (nic_str _ (by decide +kernel) (by decide +kernel)) (allc (nic_int a (by omega) (by omega)) alln))
  | .shiftP p, h => by
    have := h.1
    have := h.2
    exact nic_tup (n := 260) (allc (nic_str _ (by decide +kernel) (by decide +kernel)) (allc (nic_int p (by omega) (by omega)) alln))
  | .turnT t, h => by
    have := h.2.1
    have := h.2.2
    exact nic_tup (n := 260) (allc (nic_str _ (by decide +kernel) (by decide +kernel)) (allc (nic_int t (by omega) (by omega)) alln))
  | .clrR, _ => (nic_tup (n := 260) (allc (nic_str _ (by decide +kernel) (by decide +kernel)) alln)).mono (by omega) (by simp)
  | .clrC, _ => (nic_tup (n := 260) (allc (nic_str _ (by decide +kernel) (by decide +kernel)) alln)).mono (by omega) (by simp)
theorem nic_ops {w s : Int} (hs : s.toNat ≤ 40) (hw : w ≤ 40) (s1 : 1 ≤ s) {os : List Op} (h : OkOps w s os) : Nic 2 (os.length * 529 + 3) (.list (os.map opD)) := by
  have := nic_list (k := 1) (n := 527) (ds := os.map opD) fun d hd => by
    obtain ⟨o, ho, rfl⟩ := List.mem_map.mp hd
    exact nic_op hs hw s1 o (h o ho)
  rwa [List.length_map] at this
def tellD (x : StL) (os : List Op) : List PyData := [.int x.v, .list (x.ws.map PyData.int), .int x.a, .int x.p, .int x.b, .list (os.map opD), .int os.length]
theorem nic_tell {w s r : Int} (h : Good w s r) {os : List Op} (hl : os.length ≤ 1000) (hk : OkOps w s os) : Nic 3 3710038 (.list (tellD (stO' w s r os) os)) := by
  have X := stO_ok h os hk
  have hs := h.s2
  have hs1 := h.s1
  have hw := h.w2
  have b0 := X.b0
  have b1 := X.b1
  have v0 := X.v0
  have v1 := X.v1
  have a0 := X.a0
  have a1 := X.a1
  have p0 := X.p0
  have p1 := X.p1
  have wl := X.wl
  have hb : (10 : Int) ^ 142 * (os.length : Int) ≤ 10 ^ 142 * 1000 := Int.mul_le_mul_of_nonneg_left (by omega) (by omega)
  have hW := p10_le (show w.toNat ≤ 40 by omega)
  have hS := p10_le (show s.toNat ≤ 40 by omega)
  have hws : Nic 1 (((stO' w s r os).ws.map PyData.int).length * 262 + 3) (.list ((stO' w s r os).ws.map PyData.int)) := nic_list (n := 260) (nic_ints fun i hi => by have := X.ws i hi; omega)
  rw [List.length_map] at hws
  have hlg := nic_ops (by omega) (by omega) (by omega) hk
  have bg : ∀ {i : Int}, -(10 ^ 250) < i → i < 10 ^ 250 → Nic 2 530003 (.int i) := fun g1 g2 => (nic_int _ g1 g2).mono (by omega) (by omega)
  have := nic_list (k := 2) (n := 530003) (ds := tellD (stO' w s r os) os) (allc (bg (by omega) (by omega)) (allc (hws.mono (by omega) (by omega)) (allc (bg (by omega) (by omega)) (allc (bg (by omega) (by omega)) (allc (bg (by omega) (by omega)) (allc (hlg.mono (by omega) (by omega)) (allc (bg (by omega) (by omega)) alln)))))))
  exact this.mono (by omega) (by simp only [tellD, List.length_cons, List.length_nil]; omega)
theorem set_same {δ : List Sl} {i : Nat} {s : Sl} (h : δ[i]? = some s) : δ.set i s = δ := by
  obtain ⟨hi, e⟩ := List.getElem?_eq_some_iff.mp h
  rw [← e]; exact List.set_getElem_self hi
theorem call_io2 {fn : Fn} {δ : List Sl} {i j : Nat} {t1 t2 : Bt} {ds1 ds2 : List PyData} {r : Sl} (h1 : δ[i]? = some (.bx t1 ds1)) (h2 : δ[j]? = some (.bx t2 ds2)) (e : fn [.bx t1 ds1, .bx t2 ds2] = some (r, [.bx t1 ds1, .bx t2 ds2])) : dCall fn [.io i, .io j] δ = some (r, δ) := by
  unfold dCall
  simp only [agE, agS, agB, h1, h2, Option.bind_some, e, set_same h1, set_same h2]
section
variable {neg : Bool} {fn : Fn} {δ : List Sl} {i j : Nat} {fs1 fs2 : List Str} {ds1 ds2 : List PyData} {k : Bool} {S : Sl × List Sl → Prop} {F1 F2 : Ex}
theorem ext_l {x y : Sl} {i : Nat} {s : Sl} (h : δ[i]? = some s) : (δ ++ [x] ++ [y])[i]? = some s := by
  have hi : i < δ.length := (List.getElem?_eq_some_iff.mp h).1
  rw [List.append_assoc, List.getElem?_append_left hi]; exact h
theorem ext_2 {x y : Sl} : (δ ++ [x] ++ [y])[δ.length + 1]? = some y := by
  rw [List.append_assoc, List.getElem?_append_right (by omega), show δ.length + 1 - δ.length = 1 by omega]; rfl
theorem ext_t {x y : Sl} : (δ ++ [x] ++ [y]).take δ.length = δ := by rw [List.append_assoc, List.take_left]
theorem ev_eqNNG (h1 : δ[i]? = some (.bx (.o fs1) ds1)) (h2 : δ[j]? = some (.bx (.o fs2) ds2)) (e : fn [.bx (.o fs1) ds1, .bx (.o fs2) ds2] = some (.im (.bool k), [.bx (.o fs1) ds1, .bx (.o fs2) ds2])) (q : S (.im (.bool (k ^^ neg)), δ)) : Ev (dEqG neg fn (.nm i) (.nm j) δ) S := by
  refine Ev.of ?_ q
  have := call_io2 (ext_l (x := .no) (y := .no) h1) (ext_l (x := .no) (y := .no) h2) e
  simp only [dEqG, Eo.ev, Eo.ag, Eo.ix, eoC, objS, h1, h2, ext_l h1, ext_l h2, Option.bind_some, this, ext_t]
theorem ev_eqNFG (h1 : δ[i]? = some (.bx (.o fs1) ds1)) (h2 : Ev (F2 δ) fun x => x = (.bx (.o fs2) ds2, δ)) (e : fn [.bx (.o fs1) ds1, .bx (.o fs2) ds2] = some (.im (.bool k), [.bx (.o fs1) ds1, .bx (.o fs2) ds2])) (q : S (.im (.bool (k ^^ neg)), δ)) : Ev (dEqG neg fn (.nm i) (.nw F2) δ) S := by
  refine Ev.of ?_ q
  have h2 := h2.eq
  have := call_io2 (ext_l (x := .no) (y := .bx (.o fs2) ds2) h1) ext_2 e
  simp only [dEqG, Eo.ev, Eo.ag, Eo.ix, eoC, objS, h1, h2, ext_l h1, ext_2, Option.bind_some, this, ext_t]
theorem ev_eqNN (h1 : δ[i]? = some (.bx (.o fs1) ds1)) (h2 : δ[j]? = some (.bx (.o fs2) ds2)) (e : fn [.bx (.o fs1) ds1, .bx (.o fs2) ds2] = some (.im (.bool k), [.bx (.o fs1) ds1, .bx (.o fs2) ds2])) (q : S (.im (.bool k), δ)) : Ev (dEqG false fn (.nm i) (.nm j) δ) S := ev_eqNNG h1 h2 e (by rw [Bool.xor_false]; exact q)
theorem ev_neNF (h1 : δ[i]? = some (.bx (.o fs1) ds1)) (h2 : Ev (F2 δ) fun x => x = (.bx (.o fs2) ds2, δ)) (e : fn [.bx (.o fs1) ds1, .bx (.o fs2) ds2] = some (.im (.bool k), [.bx (.o fs1) ds1, .bx (.o fs2) ds2])) (q : S (.im (.bool (!k)), δ)) : Ev (dEqG true fn (.nm i) (.nw F2) δ) S := ev_eqNFG h1 h2 e (by rw [Bool.xor_true]; exact q)
end
theorem opD_eqv : ∀ a b : Op, PyData.eqv (opD a) (opD b) = true ↔ a = b := by
  intro a b
  cases a <;> cases b <;> simp [opD, PyData.eqv, PyData.eqvAll] <;> first | decide +kernel | (intro hh; exact absurd hh (by decide +kernel))
theorem opsD_eqv : ∀ as bs : List Op, PyData.eqvAll (as.map opD) (bs.map opD) = true ↔ as = bs
  | [], [] => by simp [PyData.eqvAll]
  | [], b :: bs => by simp [PyData.eqvAll]
  | a :: as, [] => by simp [PyData.eqvAll]
  | a :: as, b :: bs => by
    simp only [List.map_cons, PyData.eqvAll, Bool.and_eq_true, opD_eqv, opsD_eqv as bs, List.cons.injEq]
theorem Mc_eqv (w s r w' s' r' : Int) : PyData.eqv (Mc w s r) (Mc w' s' r') = true ↔ (w, s, r) = (w', s', r') := by
  simp [Mc, PyData.eqv, PyData.eqvAll]
end
section
local macro_rules | `(tactic| walk_at "kn") => `(tactic| simp (discharger := walk_at "dis") only [ev_dDIn, ev_dDGet, keyOf_str, imS_im, ev_sForApp, owQ_ow, ev_lenOS, ev_dLenO, wq01, wq02, wq03, wq10, wq12, wq13, wq20, wq21, wq23, wq30, wq31, wq32, wq40, wq41, wq42, wq43])
theorem lenO {w s r : Int} (os : List Op) : m_o_len [OB w s r os] = some (.im (.int os.length), [OB w s r os]) := by
  refine Ev.eq ?_
  unfold m_o_len OB Ob
  walk_at "go"
  rw [rowsO_len]
  all_goals rfl
theorem told44_ok {w s r : Int} {os : List Op} (h : Good w s r) (hl : os.length ≤ 1000) (hk : OkOps w s os) : m_told [OB w s r os] = some (.im (.str (PyData.shown (.list (tellD (stO' w s r os) os)))), [OB w s r os]) := by
  have e1 := displayO h os
  have e2 := counterO h os
  have e3 := settingO h os
  have e4 := placeO h os
  have e5 := bellsO h os
  have e6 := logO h hl
  have e7 := lenO (w := w) (s := s) (r := r) os
  have hn := nic_tell h hl hk
  refine Ev.eq ?_
  unfold m_told
  unfold OB Ob at *
  walk_at "go"
  rw [e1]
  walk_at "go"
  rw [e2]
  walk_at "go"
  rw [e3]
  walk_at "go"
  rw [e4]
  walk_at "go"
  rw [e5]
  walk_at "go"
  rw [e6]
  walk_at "go"
  rw [e7]
  walk_at "go"
  refine ev_repr (hn) (by omega) (by omega) ?_
  walk_at "go"
  all_goals rfl
theorem atw {ws : List Int} {p : Int} (p0 : 0 ≤ p) (p1 : p.toNat < ws.length) : atI (ws.map PyData.int) p = some (.int (ws.getD p.toNat 0)) := by
  obtain ⟨x, h1, h2⟩ := atin (ws.map PyData.int) (i := p) p0 (by rw [List.length_map]; omega)
  rw [h2, ← h1, List.getElem?_map, List.getD_eq_getElem?_getD, List.getElem?_eq_getElem p1]
  rfl
theorem state44_ok {w s r : Int} {os : List Op} (h : Good w s r) (hl : os.length ≤ 1000) (hk : OkOps w s os) :
    m_state [.im (Mc w s r), .im (.list (os.map opD))] = some (.im (.tuple [.int (stO' w s r os).v, .list ((stO' w s r os).ws.map PyData.int), .int (stO' w s r os).a, .int (stO' w s r os).p, .int (stO' w s r os).b]), [.im (Mc w s r), .im (.list (os.map opD))]) := by
  have hs := h.s1
  have hs2 := h.s2
  have hw := h.w2
  refine Ev.eq ?_
  unfold m_state
  walk_at "go"
  rw [rep0]
  refine ev_loop0 (fun k δ => ∃ q7 q8, δ = [.im (Mc w s r), .im (.list (os.map opD)), .im (.int (stO' w s r (os.take k)).v), .im (.int (stO' w s r (os.take k)).a), .im (.int (stO' w s r (os.take k)).p), .im (.int (stO' w s r (os.take k)).b), .bx .l ((stO' w s r (os.take k)).ws.map PyData.int), q7, q8])
    ⟨_, _, rfl⟩ (fun k d δ hd h' => ?_) fun δ h' => ?_
  · obtain ⟨q7, q8, rfl⟩ := h'
    rw [List.getElem?_map] at hd
    obtain ⟨o, hx, rfl⟩ := Option.map_eq_some_iff.mp hd
    clear hd
    have ho := hk o (List.mem_of_getElem? hx)
    have X := stO_ok h (os.take k) fun x hx => hk x (List.mem_of_mem_take hx)
    have hkl : (os.take k).length ≤ 1000 := by rw [List.length_take]; omega
    have v0 := X.v0
    have v1 := X.v1
    have a0 := X.a0
    have a1 := X.a1
    have p0 := X.p0
    have p1 := X.p1
    have wl := X.wl
    rw [take_snoc hx, stO_snoc]
    generalize stO' w s r (os.take k) = x at *
    obtain ⟨xv, xw, xa, xp, xb⟩ := x
    dsimp only at *
    cases o with
    | setA a =>
      rw [show opD (.setA a) = .tuple [.str "set", .int a] from rfl]
      walk_at "go"
      exact ⟨_, _, rfl⟩
    | shiftP a =>
      rw [show opD (.shiftP a) = .tuple [.str "shift", .int a] from rfl]
      walk_at "go"
      exact ⟨_, _, rfl⟩
    | turnT t =>
      have et := turnedL_ok h a0 a1 p0 p1 v0 v1 ho.2.1 ho.2.2
      have hp2 : xp.toNat < xw.length := by omega
      have hat := atw (ws := xw) p0 hp2
      have hix := ixin xw.length (i := xp) p0 (by omega)
      rw [show opD (.turnT t) = .tuple [.str "turn", .int t] from rfl]
      walk_at "go"
      rw [et]
      walk_at "go"
      rw [hat]
      walk_at "go"
      rw [hix]
      walk_at "go"
      rw [← List.map_set]
      exact ⟨_, _, rfl⟩
    | clrR =>
      rw [show opD .clrR = .tuple [.str "clear register"] from rfl]
      walk_at "go"
      exact ⟨_, _, rfl⟩
    | clrC =>
      rw [show opD .clrC = .tuple [.str "clear counter"] from rfl]
      walk_at "go"
      rw [wl]
      walk_at "go"
      rw [Int.toNat_natCast, rep0]
      exact ⟨_, _, rfl⟩
  · obtain ⟨q7, q8, rfl⟩ := h'
    rw [List.length_map, List.take_length]
    walk_at "go"
theorem due44_ok {w s r : Int} {os : List Op} (h : Good w s r) (hl : os.length ≤ 1000) (hk : OkOps w s os) : m_due [.im (Mc w s r), .im (.list (os.map opD))] = some (.im (.str (PyData.shown (.list (tellD (stO' w s r os) os)))), [.im (Mc w s r), .im (.list (os.map opD))]) := by
  have e1 := state44_ok h hl hk
  have hn := nic_tell h hl hk
  refine Ev.eq ?_
  unfold m_due
  walk_at "go"
  rw [e1]
  walk_at "go"
  refine ev_repr (hn) (by omega) (by omega) ?_
  walk_at "go"
  all_goals rfl
theorem call44_ok {w s r : Int} {os : List Op} {o : Op} (h : Good w s r) (hl : os.length ≤ 1000) (hk : OkOps w s os) (ho : OkOp w s o) : m_call [OB w s r os, .im (opD o)] = some (.im (.bool true), [OB w s r (os ++ [o]), .im (opD o)]) := by
  refine Ev.eq ?_
  unfold m_call
  cases o with
  | setA x =>
    have e := setO h hl ho
    rw [show opD (.setA x) = .tuple [.str "set", .int x] from rfl]
    unfold OB Ob at *
    walk_at "go"
    rw [e]
    walk_at "go"
  | shiftP x =>
    have e := shiftO h hl ho
    rw [show opD (.shiftP x) = .tuple [.str "shift", .int x] from rfl]
    unfold OB Ob at *
    walk_at "go"
    rw [e]
    walk_at "go"
  | turnT x =>
    have e := turnO h hl hk ho
    rw [show opD (.turnT x) = .tuple [.str "turn", .int x] from rfl]
    unfold OB Ob at *
    walk_at "go"
    rw [e]
    walk_at "go"
  | clrR =>
    have e := clrRO h hl
    rw [show opD .clrR = .tuple [.str "clear register"] from rfl]
    unfold OB Ob at *
    walk_at "go"
    rw [e]
    walk_at "go"
  | clrC =>
    have e := clrCO h hl
    rw [show opD .clrC = .tuple [.str "clear counter"] from rfl]
    unfold OB Ob at *
    walk_at "go"
    rw [e]
    walk_at "go"
theorem next44_spec {m : Nat} {j : List PyData} {w s r T : Int} (hj : Jar m j) (hm : m ≤ 10 ^ 13) (h : Good w s r) (t0 : 1 ≤ T) (t1 : T ≤ 10 ^ 39) :
    Ev (m_next [.bx .l j, .im (Mc w s r), .im (.int T)]) fun y => ∃ o j', y = (.im (opD o), [.bx .l j', .im (Mc w s r), .im (.int T)]) ∧ OkOp w s o ∧ Jar (m + 20) j' := by
  have hw := h.w2
  have hs := h.s1
  have hs2 := h.s2
  unfold m_next
  walk_at "go"
  refine (drawS_spec hj (by omega) (by omega) (by omega)).mono ?_
  rintro _ ⟨r1, j_r1, rfl, r10, r11, hj⟩
  walk_at "go"
  refine br_mk (fun h1 => ?_) fun h1 => ?_
  · walk_at "go"
    refine (figureS_spec hj (by omega) h).mono ?_
    rintro _ ⟨a, j4, rfl, a0, a1, hj⟩
    walk_at "go"
    exact ⟨.setA a, _, rfl, ⟨a0, a1⟩, hj.mono (by omega)⟩
  walk_at "go"
  refine br_mk (fun h2 => ?_) fun h2 => ?_
  · walk_at "go"
    refine (drawS_spec hj (by omega) (by omega) (by omega)).mono ?_
    rintro _ ⟨r2, j_r2, rfl, r20, r21, hj⟩
    walk_at "go"
    exact ⟨.shiftP r2, _, rfl, ⟨by omega, by omega⟩, hj.mono (by omega)⟩
  walk_at "go"
  refine br_mk (fun h2 => ?_) fun h2 => ?_
  · walk_at "go"
    refine (drawS_spec hj (by omega) (by omega) (by omega)).mono ?_
    rintro _ ⟨r2, j_r2, rfl, r20, r21, hj⟩
    walk_at "go"
    rcases (show r2 = 0 ∨ r2 = 1 by omega) with rfl | rfl
    · walk_at "go"
      exact ⟨.clrR, _, rfl, trivial, hj.mono (by omega)⟩
    · walk_at "go"
      exact ⟨.clrC, _, rfl, trivial, hj.mono (by omega)⟩
  walk_at "go"
  refine (drawS_spec hj (by omega) (by omega) (by omega)).mono ?_
  rintro _ ⟨r2, j_r2, rfl, r20, r21, hj⟩
  walk_at "go"
  first | refine sel1 (by omega) (by omega) ?_ | refine sel2 (by omega) (by omega) ?_ | refine sel3 (by omega) (by omega) ?_ | refine sel4 (by omega) (by omega) ?_ | refine sel5 (by omega) (by omega) ?_ | refine sel6 (by omega) (by omega) ?_ | refine sel7 (by omega) (by omega) ?_ | refine sel8 (by omega) (by omega) ?_
  intro U hs_U
  have Ul : 1 ≤ U := by omega
  have Uh : U ≤ (10 ^ 39) := by omega
  clear hs_U
  walk_at "go"
  refine (drawS_spec hj (by omega) (by omega) (by omega)).mono ?_
  rintro _ ⟨r3, j_r3, rfl, r30, r31, hj⟩
  walk_at "go"
  refine (drawS_spec hj (by omega) (by omega) (by omega)).mono ?_
  rintro _ ⟨r4, j_r4, rfl, r40, r41, hj⟩
  walk_at "go"
  refine sel3 (by omega) (by omega) ?_
  intro S hS
  walk_at "go"
  have ht : (1 + r3) * S ≠ 0 ∧ -(10 ^ 40) < (1 + r3) * S ∧ (1 + r3) * S < 10 ^ 40 := by
    rcases hS with rfl | rfl | rfl <;> omega
  generalize (1 + r3) * S = t at *
  walk_at "go"
  exact ⟨.turnT t, _, rfl, ⟨ht.1, by omega, by omega⟩, hj.mono (by omega)⟩
theorem eqO_ok {w s r w' s' r' : Int} {os os' : List Op} (h : Good w s r) (h' : Good w' s' r') (hl : os.length ≤ 1000) (hl' : os'.length ≤ 1000) (k : Bool) (hk : k = true ↔ ((w, s, r) = (w', s', r') ∧ os = os')) :
    m_o_eq [OB w s r os, OB w' s' r' os'] = some (.im (.bool k), [OB w s r os, OB w' s' r' os']) := by
  have e1 := logO h hl
  have e2 := logO h' hl'
  have lo : ∀ (w s r : Int) (os : List Op), Lo 3 (.tuple [Mc w s r, .list (os.map opD)]) := fun w s r os => lo_tup (k := 2) (allc (lo_tup (k := 1) (allc (lo_int _ _) (allc (lo_int _ _) (allc (lo_int _ _) alln)))) (allc (lo_list (fun d hd => by
    obtain ⟨o, _, rfl⟩ := List.mem_map.mp hd
    exact opD_lo o)) alln))
  have hv : (PyData.eqv (Mc w s r) (Mc w' s' r') && (PyData.eqvAll (os.map opD) (os'.map opD) && true)) = k := by
    rw [Bool.eq_iff_iff, hk, Bool.and_true, Bool.and_eq_true, Mc_eqv, opsD_eqv]
  have hs := (lo w s r os).shaped (by omega)
  have hs' := (lo w' s' r' os').shaped (by omega)
  refine Ev.eq ?_
  unfold m_o_eq
  unfold OB Ob at *
  walk_at "go"
  refine Ev.of (show dIsG 1 _ = some (.im (.bool true), _) from rfl) ?_
  walk_at "go"
  rw [e1]
  walk_at "go"
  rw [e2]
  walk_at "go"
  first | refine gd_mk ⟨hs, hs'⟩ ?_ | skip
  simp only [PyData.eqv, PyData.eqvAll] at hv ⊢
  rw [hv]
  walk_at "go"
end
section
local macro_rules | `(tactic| walk_at "kn") => `(tactic| simp (discharger := walk_at "dis") only [ev_dDIn, ev_dDGet, keyOf_str, imS_im, ev_sForApp, owQ_ow, ev_lenOS, ev_dLenO, wq01, wq02, wq03, wq10, wq12, wq13, wq20, wq21, wq23, wq30, wq31, wq32, wq40, wq41, wq42, wq43])
def Om (w s r : Int) (cs : List PyData) : Sl := .mo (macI [Mc w s r, .list cs])
def OM (w s r : Int) (os : List Op) : Sl := Om w s r (rowsO w s r (st00 w s) os)
theorem macS_mo (ds : List PyData) : macS (some (.mo (macI ds))) = some ds := rfl
theorem ev_dFldR (i : Nat) (f : Str) {δ : List Sl} {S : Sl × List Sl → Prop} : Ev (dFldR i f δ) S = Ev (macS δ[i]?) fun ds => Ev (((["kept_machine", "kept_calls"] : List Str).zip ds).lookup f) fun d => S (.im d, δ) := by simp only [e0, b0, g0, dFldR, x_bind, x_some]
theorem ev_dMethR (m : Str) (fn : Fn) (i : Nat) {δ : List Sl} {S : Sl × List Sl → Prop} : Ev (dMethR m fn i δ) S = Ev (macS δ[i]?) fun _ => Gd ((["kept_machine", "kept_calls"] : List Str).contains m = false) (Ev (dCall fn [.io i] δ) S) := by simp only [e0, b0, g0, dMethR, x_bind, x_gd]
theorem ev_dPropR (fn : Fn) (i : Nat) {δ : List Sl} {S : Sl × List Sl → Prop} : Ev (dPropR fn i δ) S = Ev (macS δ[i]?) fun _ => Ev (dCall fn [.io i] δ) S := by simp only [e0, b0, g0, dPropR, x_bind]
theorem ev_dIsR (i : Nat) {δ : List Sl} {S : Sl × List Sl → Prop} : Ev (dIsR i δ) S = Ev (macS δ[i]?) fun _ => S (.im (.bool true), δ) := by simp only [e0, b0, g0, dIsR, x_bind, x_some]
theorem ev_dLenR (fn : Fn) (i : Nat) {δ : List Sl} {S : Sl × List Sl → Prop} : Ev (dLenR fn i δ) S = Ev (dPropR fn i δ) fun y => Ev (lenOS y.1) fun n => S (.im (.int n), y.2) := by
  unfold dLenR
  rw [ev_bind]
  refine congrArg (fun f => Ev _ f) (funext fun y => ?_)
  obtain ⟨r, d⟩ := y
  cases r with
  | im x =>
    cases x with
    | int n =>
      show Ev (if 0 ≤ n ∧ n < 2 ^ 63 then _ else none) S = Ev (if 0 ≤ n ∧ n < 2 ^ 63 then some n else none) _
      rw [ev_gd, ev_gd, ev_some, ev_some]
    | _ => exact ev_none.trans ev_none.symm
  | _ => exact ev_none.trans ev_none.symm
local macro_rules | `(tactic| walk_at "kn") => `(tactic| simp (discharger := walk_at "dis") only [ev_dDIn, ev_dDGet, keyOf_str, imS_im, ev_sForApp, owQ_ow, ev_lenOS, ev_dLenO, wq01, wq02, wq03, wq10, wq12, wq13, wq20, wq21, wq23, wq30, wq31, wq32, wq40, wq41, wq42, wq43, macS_mo, ev_dFldR, ev_dMethR, ev_dPropR, ev_dIsR, ev_dLenR])
theorem state_okR {m : Nat} {w s r : Int} {cs : List PyData} {v : Int} {ws : List Int} {a p b : Int} (h : Good w s r) (L : Live m w s r cs v ws a p b) : r_o_state_now [Om w s r cs] = some (.im (stLv v ws a p b), [Om w s r cs]) := by
  have hs := h.s1
  have hs2 := h.s2
  have hw := h.w2
  refine Ev.eq ?_
  unfold r_o_state_now Om
  rcases L.st with ⟨rfl, rfl, rfl, rfl, rfl, rfl⟩ | ⟨cs0, c, rfl⟩
  · walk_at "go"
    rw [places_of_eq]
    walk_at "go"
    rw [rep0]
    rfl
  · walk_at "go"
    refine gd_mk ⟨(lo_list L.lo).shaped (by omega), by decide⟩ ?_
    rw [eqv_snoc]
    walk_at "go"
    rw [last_row]
    walk_at "go"
    unfold rowLv
    walk_at "go"
    rw [cut1]
    rfl
theorem display_okR {m : Nat} {w s r : Int} {cs : List PyData} {v : Int} {ws : List Int} {a p b : Int} (h : Good w s r) (L : Live m w s r cs v ws a p b) : r_o_display [Om w s r cs] = some (.im (.int v), [Om w s r cs]) := by
  have e1 := state_okR h L
  refine Ev.eq ?_
  unfold r_o_display
  unfold Om at *
  walk_at "go"
  rw [e1]
  walk_at "go"
  unfold stLv
  walk_at "go"
  all_goals rfl
theorem bells_okR {m : Nat} {w s r : Int} {cs : List PyData} {v : Int} {ws : List Int} {a p b : Int} (h : Good w s r) (L : Live m w s r cs v ws a p b) : r_o_bells [Om w s r cs] = some (.im (.int b), [Om w s r cs]) := by
  have e1 := state_okR h L
  refine Ev.eq ?_
  unfold r_o_bells
  unfold Om at *
  walk_at "go"
  rw [e1]
  walk_at "go"
  unfold stLv
  walk_at "go"
  all_goals rfl
theorem setting_okR {m : Nat} {w s r : Int} {cs : List PyData} {v : Int} {ws : List Int} {a p b : Int} (h : Good w s r) (L : Live m w s r cs v ws a p b) : r_o_setting [Om w s r cs] = some (.im (.int a), [Om w s r cs]) := by
  have e1 := state_okR h L
  refine Ev.eq ?_
  unfold r_o_setting
  unfold Om at *
  walk_at "go"
  rw [e1]
  walk_at "go"
  unfold stLv
  walk_at "go"
  all_goals rfl
theorem place_okR {m : Nat} {w s r : Int} {cs : List PyData} {v : Int} {ws : List Int} {a p b : Int} (h : Good w s r) (L : Live m w s r cs v ws a p b) : r_o_place [Om w s r cs] = some (.im (.int p), [Om w s r cs]) := by
  have e1 := state_okR h L
  refine Ev.eq ?_
  unfold r_o_place
  unfold Om at *
  walk_at "go"
  rw [e1]
  walk_at "go"
  unfold stLv
  walk_at "go"
  all_goals rfl
theorem counterL_okR {m : Nat} {w s r : Int} {cs : List PyData} {v : Int} {ws : List Int} {a p b : Int} (h : Good w s r) (L : Live m w s r cs v ws a p b) : r_o_counter [Om w s r cs] = some (.bx .l (ws.map PyData.int), [Om w s r cs]) := by
  have e1 := state_okR h L
  refine Ev.eq ?_
  unfold r_o_counter
  unfold Om at *
  walk_at "go"
  rw [e1]
  walk_at "go"
  unfold stLv
  walk_at "go"
  all_goals rfl
theorem log_okR {w s r : Int} {os : List PyData} (h : Good w s r) (hr : Rows os) (hl : os.length ≤ 1000) : r_o_log [Om w s r os] = some (.bx .l (logD os), [Om w s r os]) := by
  refine Ev.eq ?_
  unfold r_o_log
  unfold Om
  walk_at "go"
  refine ev_lc0 (fun k acc δ => acc = logD (os.take k) ∧ ∃ q1, δ = [Om w s r os, q1]) ⟨rfl, _, rfl⟩ (by omega) (fun i d acc δ hd h' => ?_) fun acc δ h' => ?_
  · obtain ⟨rfl, q1, rfl⟩ := h'
    obtain ⟨c, a, b, e', f, g, rfl, hc⟩ := hr d (List.mem_of_getElem? hd)
    unfold Om
    rw [take_snoc hd]
    walk_at "go"
    unfold logD
    rw [List.map_append]
    exact ⟨rfl, _, rfl⟩
  · obtain ⟨rfl, q1, rfl⟩ := h'
    rw [List.take_length]
    unfold Om
    walk_at "go"
theorem displayOR {w s r : Int} (h : Good w s r) (os : List Op) : r_o_display [OM w s r os] = some (.im (.int (stO' w s r os).v), [OM w s r os]) := display_okR h (liveOp h os)
theorem bellsOR {w s r : Int} (h : Good w s r) (os : List Op) : r_o_bells [OM w s r os] = some (.im (.int (stO' w s r os).b), [OM w s r os]) := bells_okR h (liveOp h os)
theorem settingOR {w s r : Int} (h : Good w s r) (os : List Op) : r_o_setting [OM w s r os] = some (.im (.int (stO' w s r os).a), [OM w s r os]) := setting_okR h (liveOp h os)
theorem placeOR {w s r : Int} (h : Good w s r) (os : List Op) : r_o_place [OM w s r os] = some (.im (.int (stO' w s r os).p), [OM w s r os]) := place_okR h (liveOp h os)
theorem counterOR {w s r : Int} (h : Good w s r) (os : List Op) : r_o_counter [OM w s r os] = some (.bx .l ((stO' w s r os).ws.map PyData.int), [OM w s r os]) := counterL_okR h (liveOp h os)
theorem logOR {w s r : Int} (h : Good w s r) {os : List Op} (hl : os.length ≤ 1000) : r_o_log [OM w s r os] = some (.bx .l (os.map opD), [OM w s r os]) := by
  have := log_okR (os := rowsO w s r (st00 w s) os) h (rows_O w s r os _) (by rw [rowsO_len]; exact hl)
  rwa [logD_O] at this
theorem lenOR {w s r : Int} (os : List Op) : r_o_len [OM w s r os] = some (.im (.int os.length), [OM w s r os]) := by
  refine Ev.eq ?_
  unfold r_o_len OM Om
  walk_at "go"
  rw [rowsO_len]
  all_goals rfl
theorem told44_okR {w s r : Int} {os : List Op} (h : Good w s r) (hl : os.length ≤ 1000) (hk : OkOps w s os) : r_told [OM w s r os] = some (.im (.str (PyData.shown (.list (tellD (stO' w s r os) os)))), [OM w s r os]) := by
  have e1 := displayOR h os
  have e2 := counterOR h os
  have e3 := settingOR h os
  have e4 := placeOR h os
  have e5 := bellsOR h os
  have e6 := logOR h hl
  have e7 := lenOR (w := w) (s := s) (r := r) os
  have hn := nic_tell h hl hk
  refine Ev.eq ?_
  unfold r_told
  unfold OM Om at *
  walk_at "go"
  rw [e1]
  walk_at "go"
  rw [e2]
  walk_at "go"
  rw [e3]
  walk_at "go"
  rw [e4]
  walk_at "go"
  rw [e5]
  walk_at "go"
  rw [e6]
  walk_at "go"
  rw [e7]
  walk_at "go"
  refine ev_repr (hn) (by omega) (by omega) ?_
  walk_at "go"
  all_goals rfl
theorem eqO_okR {w s r w' s' r' : Int} {os os' : List Op} (h : Good w s r) (h' : Good w' s' r') (hl : os.length ≤ 1000) (hl' : os'.length ≤ 1000) (k : Bool) (hk : k = true ↔ ((w, s, r) = (w', s', r') ∧ os = os')) :
    r_o_eq [OM w s r os, OM w' s' r' os'] = some (.im (.bool k), [OM w s r os, OM w' s' r' os']) := by
  have e1 := logOR h hl
  have e2 := logOR h' hl'
  have lo : ∀ (w s r : Int) (os : List Op), Lo 3 (.tuple [Mc w s r, .list (os.map opD)]) := fun w s r os => lo_tup (k := 2) (allc (lo_tup (k := 1) (allc (lo_int _ _) (allc (lo_int _ _) (allc (lo_int _ _) alln)))) (allc (lo_list (fun d hd => by
    obtain ⟨o, _, rfl⟩ := List.mem_map.mp hd
    exact opD_lo o)) alln))
  have hv : (PyData.eqv (Mc w s r) (Mc w' s' r') && (PyData.eqvAll (os.map opD) (os'.map opD) && true)) = k := by
    rw [Bool.eq_iff_iff, hk, Bool.and_true, Bool.and_eq_true, Mc_eqv, opsD_eqv]
  have hs := (lo w s r os).shaped (by omega)
  have hs' := (lo w' s' r' os').shaped (by omega)
  refine Ev.eq ?_
  unfold r_o_eq
  unfold OM Om at *
  walk_at "go"
  rw [e1]
  walk_at "go"
  rw [e2]
  walk_at "go"
  first | refine gd_mk ⟨hs, hs'⟩ ?_ | skip
  simp only [PyData.eqv, PyData.eqvAll] at hv ⊢
  rw [hv]
  walk_at "go"
end
section
local macro_rules | `(tactic| walk_at "kn") => `(tactic| simp (discharger := walk_at "dis") only [macS_mo, ev_dFldR, ev_dMethR, ev_dPropR, ev_dIsR, ev_dLenR, ev_dDIn, ev_dDGet, keyOf_str, imS_im, ev_sForApp, owQ_ow, ev_lenOS, ev_dLenO, wq01, wq02, wq03, wq10, wq12, wq13, wq20, wq21, wq23, wq30, wq31, wq32, wq40, wq41, wq42, wq43])
theorem ev_loopG {U : Fl × List Sl → Prop} {j c : Nat} {B : Sm} (Inv : Nat → List Sl → Prop) : ∀ (L : LD) (k : Nat) (δ : List Sl), Inv k δ →
    (∀ (i : Nat) (y : List PyData × PyData) (δ : List Sl), L[i]? = some y → Inv (k + i) δ → Ev (B (tgRow j c y δ)) fun x => kLoop (Inv (k + i + 1)) U x.1 x.2) → (∀ δ, Inv (k + L.length) δ → U (.nx, δ)) → Ev (loopG j c B L δ) U
  | [], k, δ, h, s, e => Ev.of rfl (e δ h)
  | y :: ys, k, δ, h, s, e => by
    obtain ⟨x, e1, hx⟩ := s 0 y δ rfl h
    obtain ⟨f, δ'⟩ := x
    have rest : Inv (k + 1) δ' → Ev (loopG j c B ys δ') U := fun hi => ev_loopG Inv ys (k + 1) δ' hi (fun i z δ h1 h2 => by
      have := s (i + 1) z δ (by simpa using h1) (by rwa [show k + (i + 1) = k + 1 + i by omega])
      rwa [show k + (i + 1) + 1 = k + 1 + i + 1 by omega] at this) fun δ h => e δ (by
      rw [List.length_cons]
      rwa [show k + (ys.length + 1) = k + 1 + ys.length by omega])
    show Ev ((B (tgRow j c y δ)).bind fun x => match x.1 with
      | .nx => loopG j c B ys x.2
      | .ct => loopG j c B ys x.2
      | .bk => some (.nx, x.2)
      | .rt r => some (.rt r, x.2)) U
    rw [e1]
    cases f with
    | nx => exact rest hx
    | ct => exact rest hx
    | bk => exact Ev.of rfl hx
    | rt r => exact Ev.of rfl hx
theorem ev_forG {U : Fl × List Sl → Prop} {f j c : Nat} {B : Sm} {L : LD} {δ : List Sl} (hf : famL δ[f]? = some L) (Inv : Nat → List Sl → Prop) (h : Inv 0 δ)
    (s : ∀ (i : Nat) (y : List PyData × PyData) (δ : List Sl), L[i]? = some y → Inv i δ → Ev (B (tgRow j c y δ)) fun x => kLoop (Inv (i + 1)) U x.1 x.2) (e : ∀ δ, Inv L.length δ → U (.nx, δ)) : Ev (sForG f j c B δ) U := by
  unfold sForG
  rw [hf]
  exact ev_loopG Inv L 0 δ h (fun i y δ h1 h2 => by rw [Nat.zero_add] at h2 ⊢; exact s i y δ h1 h2) fun δ h => e δ (by rwa [Nat.zero_add] at h)
theorem ev_lcG {Y : List PyData × List Sl → Prop} {j c : Nat} {F : Ex} {vs : List Nat} (G : List PyData × PyData → PyData) (Inv : List Sl → Prop) : ∀ (L : LD) (acc : List PyData) (δ : List Sl), Inv δ → acc.length + L.length ≤ 16777216 →
    (∀ (y : List PyData × PyData) (δ : List Sl), y ∈ L → Inv δ → Ev (F (tgRow j c y (wipeD δ vs))) fun z => z.1 = .im (G y) ∧ Inv z.2) → (∀ δ, Inv δ → Y (acc ++ L.map G, δ)) → Ev (lcG j c F vs L acc δ) Y
  | [], acc, δ, h, hl, s, e => Ev.of rfl (by have := e δ h; rwa [List.map_nil, List.append_nil] at this)
  | y :: ys, acc, δ, h, hl, s, e => by
    obtain ⟨⟨r, δ'⟩, e1, rfl, hi⟩ := s y δ (List.mem_cons_self ..) h
    rw [List.length_cons] at hl
    show Ev ((F (tgRow j c y (wipeD δ vs))).bind fun z => z.1.sh.bind fun v => if acc.length < LINE then lcG j c F vs ys (acc ++ [v]) z.2 else none) Y
    rw [e1]
    show Ev (if acc.length < LINE then lcG j c F vs ys (acc ++ [G y]) δ' else none) Y
    rw [if_pos (show acc.length < LINE from by show acc.length < 16777216; omega)]
    exact ev_lcG G Inv ys (acc ++ [G y]) δ' hi (by rw [List.length_append, List.length_singleton]; omega) (fun z δ hz => s z δ (List.mem_cons_of_mem _ hz)) fun δ h => by
      have := e δ h
      rwa [List.append_assoc]
theorem ev_dLcG {S : Sl × List Sl → Prop} {n f j c : Nat} {F : Ex} {L : LD} {δ : List Sl} (hn : δ.length ≤ n) (hf : famL δ[f]? = some L) (hc : calmD δ [j, c] = true) (hl : L.length ≤ 16777216) (G : List PyData × PyData → PyData) (Inv : List Sl → Prop) (h : Inv δ)
    (s : ∀ (y : List PyData × PyData) (δ : List Sl), y ∈ L → Inv δ → Ev (F (tgRow j c y (wipeD δ [j, c]))) fun z => z.1 = .im (G y) ∧ Inv z.2) (e : ∀ δ', Inv δ' → S (.bx .l (L.map G), unwipe δ δ' [j, c])) : Ev (dLcG n f j c F δ) S := by
  unfold dLcG
  rw [if_pos hn, hf]
  show Ev (if calmD δ [j, c] = true then (lcG j c F [j, c] L [] δ).bind fun y => some (.bx .l y.1, unwipe δ y.2 [j, c]) else none) S
  rw [if_pos hc, ev_bind]
  refine ev_lcG G Inv L [] δ h (by simpa using hl) s fun δ' h' => ?_
  rw [ev_some]
  exact e δ' h'
def famD (w s r : Int) (fs : List (List Op)) : LD := fs.map fun os => ([Mc w s r, .list (rowsO w s r (st00 w s) os)], .list (os.map opD))
theorem famD_len (w s r : Int) (fs : List (List Op)) : (famD w s r fs).length = fs.length := by unfold famD; rw [List.length_map]
theorem famD_at {w s r : Int} {fs : List (List Op)} {k : Nat} {y : List PyData × PyData} (h : (famD w s r fs)[k]? = some y) : ∃ os, fs[k]? = some os ∧ y = ([Mc w s r, .list (rowsO w s r (st00 w s) os)], .list (os.map opD)) := by
  unfold famD at h
  rw [List.getElem?_map] at h
  obtain ⟨os, h1, rfl⟩ := Option.map_eq_some_iff.mp h
  exact ⟨os, h1, rfl⟩
theorem famL_D (w s r : Int) (fs : List (List Op)) : famL (some (.mo (famI (famD w s r fs)))) = some (famD w s r fs) := famL_mo _
theorem last_any {α : Type} (cs : List α) (c : α) : atI (cs ++ [c]) (-1) = some c := by
  unfold atI ixN
  have h1 : -((cs ++ [c]).length : Int) ≤ -1 := by simp only [List.length_append, List.length_cons, List.length_nil]; omega
  have h2 : ((-1 : Int) + ((cs ++ [c]).length : Nat)).toNat = cs.length := by simp only [List.length_append, List.length_cons, List.length_nil]; omega
  rw [if_neg (by omega), if_pos h1, h2]
  simp
theorem ev_rowG {U : Fl × List Sl → Prop} {f j c : Nat} {F : Ex} {L : LD} {δ : List Sl} {y : List PyData × PyData} (hf : famL δ[f]? = some L) (he : F δ = some (.im (.int (-1)), δ)) (ha : atI L (-1) = some y) (q : U (.nx, tgRow j c y δ)) : Ev (sRowG f j c F δ) U := by
  unfold sRowG
  rw [hf]
  show Ev ((F δ).bind fun x => (intOf x.1).bind fun i => (famL x.2[f]?).bind fun L => (atI L i).bind fun y => some (.nx, tgRow j c y x.2)) U
  rw [he]
  show Ev ((famL δ[f]?).bind fun L => (atI L (-1)).bind fun y => some (.nx, tgRow j c y δ)) U
  rw [hf]
  show Ev ((atI L (-1)).bind fun y => some (.nx, tgRow j c y δ)) U
  rw [ha]
  exact Ev.of rfl q
theorem ev_dEqR {S : Sl × List Sl → Prop} {fn : Fn} {i j : Nat} {δ : List Sl} {a b : List PyData} {k : Bool} (h1 : δ[i]? = some (.mo (macI a))) (h2 : δ[j]? = some (.mo (macI b))) (e : dCall fn [.io i, .io j] δ = some (.im (.bool k), δ)) (q : S (.im (.bool k), δ)) : Ev (dEqR fn i j δ) S := by
  unfold dEqR
  rw [h1, h2]
  show Ev ((dCall fn [.io i, .io j] δ).bind fun z => match z.1 with
    | .im (.bool k) => some (.im (.bool k), z.2)
    | _ => none) S
  rw [e]
  exact Ev.of rfl q
theorem opsD_inj {as bs : List Op} (h : as.map opD = bs.map opD) : as = bs := (opsD_eqv as bs).mp (by rw [h]; exact (opsD_eqv bs bs).mpr rfl)
open Classical in
noncomputable def sameS (lst : List Op) (y : List PyData × PyData) : Str := PyData.shown (.bool (decide (y.2 = .list (lst.map opD))))
open Classical in
theorem sameS_eq {lst os : List Op} {fs : List PyData} {k : Bool} (hk : k = true ↔ lst = os) : sameS lst (fs, .list (os.map opD)) = PyData.shown (.bool k) := by
  unfold sameS
  congr 2
  rw [Bool.eq_iff_iff, decide_eq_true_eq, hk]
  exact ⟨fun h => (opsD_inj (PyData.list.inj h)).symm, fun h => by rw [h]⟩
theorem strs_eqvG {α : Type} (g : α → Str) : ∀ l : List α, PyData.eqvAll (l.map fun y => .str (g y)) (l.map fun y => .str (g y)) = true
  | [] => rfl
  | a :: l => by simp only [List.map_cons, PyData.eqvAll, PyData.eqv, strs_eqvG g l, beq_self_eq_true, Bool.and_self]
open Classical in
theorem sameS_ok (lst : List Op) (y : List PyData × PyData) : PyData.strOk (sameS lst y) = true := by
  unfold sameS
  generalize (decide (y.2 = PyData.list (lst.map opD))) = b
  cases b <;> decide +kernel
open Classical in
theorem are45_ok {w s r : Int} {fs : List (List Op)} (h : Good w s r) (hne : fs ≠ []) (hl : fs.length ≤ 1000) (hk : ∀ os ∈ fs, os.length ≤ 1000 ∧ OkOps w s os) :
    r_are_right [.im (Mc w s r), .mo (famI (famD w s r fs))] = some (.im (.bool true), [.im (Mc w s r), .mo (famI (famD w s r fs))]) := by
  refine Ev.eq ?_
  unfold r_are_right
  walk_at "go"
  refine ev_forG (L := famD w s r fs) (famL_D w s r fs) (fun k δ => ∃ q2 q3, δ = [.im (Mc w s r), .mo (famI (famD w s r fs)), q2, q3, .no, .no]) ⟨_, _, rfl⟩ (fun k y δ hd h' => ?_) fun δ h' => ?_
  · obtain ⟨q2, q3, rfl⟩ := h'
    obtain ⟨os, hos, rfl⟩ := famD_at hd
    obtain ⟨hl1, hk1⟩ := hk os (List.mem_of_getElem? hos)
    have et := told44_okR h hl1 hk1
    have ed := due44_ok h hl1 hk1
    unfold OM Om at et
    unfold tgRow
    walk_at "go"
    rw [et]
    walk_at "go"
    rw [ed]
    walk_at "go"
    walk_at "go"
    exact ⟨_, _, rfl⟩
  · obtain ⟨q2, q3, rfl⟩ := h'
    rcases List.eq_nil_or_concat fs with rfl | ⟨fs0, lst, rfl⟩
    · exact absurd rfl hne
    rw [List.concat_eq_append] at hk hl ⊢
    have hat : atI (famD w s r (fs0 ++ [lst])) (-1) = some ([Mc w s r, .list (rowsO w s r (st00 w s) lst)], .list (lst.map opD)) := by
      unfold famD
      rw [List.map_append]
      exact last_any _ _
    obtain ⟨hl0, hk0⟩ := hk lst (List.mem_append_right _ (List.mem_singleton.mpr rfl))
    walk_at "go"
    refine ev_rowG (famL_D w s r _) rfl hat ?_
    unfold tgRow
    walk_at "go"
    refine ev_dLcG (L := famD w s r (fs0 ++ [lst])) (Nat.le_refl 6) (famL_D w s r _) rfl (by rw [famD_len]; omega) (fun y => .str (sameS lst y)) (fun δ => ∃ q4 q5, δ = [.im (Mc w s r), .mo (famI (famD w s r (fs0 ++ [lst]))), .mo (macI [Mc w s r, .list (rowsO w s r (st00 w s) lst)]), .im (.list (lst.map opD)), q4, q5]) ⟨_, _, rfl⟩ (fun y δ hy h' => ?_) fun δ' h' => ?_
    · obtain ⟨q4, q5, rfl⟩ := h'
      obtain ⟨k, hy⟩ := List.getElem?_of_mem hy
      obtain ⟨os, hos, rfl⟩ := famD_at hy
      obtain ⟨hl1, hk1⟩ := hk os (List.mem_of_getElem? hos)
      have hd : ∃ k : Bool, k = true ↔ lst = os := by
        by_cases z : lst = os
        · exact ⟨true, by simp [z]⟩
        · exact ⟨false, by simp [z]⟩
      obtain ⟨kb, hkb⟩ := hd
      have ee := eqO_okR h h hl0 hl1 kb (by rw [hkb]; simp)
      rw [sameS_eq hkb]
      unfold OM Om at ee
      unfold tgRow
      walk_at "go"
      refine ev_dEqR rfl rfl (k := kb) (Ev.eq ?_) ?_
      · walk_at "go"
        rw [ee]
        walk_at "go"
        walk_at "go"
        all_goals rfl
      · walk_at "go"
        refine ev_repr (nic_bool _) (by omega) (by omega) ?_
        walk_at "go"
        first | exact ⟨rfl, _, _, rfl⟩ | exact ⟨_, _, rfl⟩
    · obtain ⟨q4, q5, rfl⟩ := h'
      walk_at "go"
      have lol : ∀ os : List Op, Lo 2 (.list (os.map opD)) := fun os => lo_list (k := 1) fun d hd => by
        obtain ⟨o, _, rfl⟩ := List.mem_map.mp hd
        exact opD_lo o
      refine ev_dLcG (L := famD w s r (fs0 ++ [lst])) (Nat.le_refl 6) (famL_D w s r _) rfl (by rw [famD_len]; omega) (fun y => .str (sameS lst y)) (fun δ => ∃ q4 q5, δ = [.im (Mc w s r), .mo (famI (famD w s r (fs0 ++ [lst]))), .mo (macI [Mc w s r, .list (rowsO w s r (st00 w s) lst)]), .im (.list (lst.map opD)), q4, q5]) ⟨_, _, rfl⟩ (fun y δ hy h' => ?_) fun δ' h' => ?_
      · obtain ⟨q4, q5, rfl⟩ := h'
        obtain ⟨k, hy⟩ := List.getElem?_of_mem hy
        obtain ⟨os, hos, rfl⟩ := famD_at hy
        have hd : ∃ k : Bool, k = true ↔ lst = os := by
          by_cases z : lst = os
          · exact ⟨true, by simp [z]⟩
          · exact ⟨false, by simp [z]⟩
        obtain ⟨kb, hkb⟩ := hd
        have hv : PyData.eqvAll (lst.map opD) (os.map opD) = kb := by rw [Bool.eq_iff_iff, opsD_eqv, hkb]
        rw [sameS_eq hkb]
        unfold tgRow
        walk_at "go"
        first | refine gd_mk ⟨(lol lst).shaped (by omega), (lol os).shaped (by omega)⟩ ?_ | skip
        try simp only [PyData.eqv] at hv ⊢
        rw [hv]
        walk_at "go"
        refine ev_repr (nic_bool _) (by omega) (by omega) ?_
        walk_at "go"
        first | exact ⟨rfl, _, _, rfl⟩ | exact ⟨_, _, rfl⟩
      · obtain ⟨q4, q5, rfl⟩ := h'
        walk_at "go"
        refine gd_mk ((lo_list (k := 0) fun d hd => by
          obtain ⟨y, _, rfl⟩ := List.mem_map.mp hd
          exact lo_str _ _ (sameS_ok lst y)).shaped (by omega)) (gd_mk rfl ?_)
        rw [strs_eqvG]
        walk_at "go"
        all_goals rfl
end
section
local macro_rules | `(tactic| walk_at "kn") => `(tactic| simp (discharger := walk_at "dis") only [macS_mo, ev_dFldR, ev_dMethR, ev_dPropR, ev_dIsR, ev_dLenR, ev_dDIn, ev_dDGet, keyOf_str, imS_im, ev_sForApp, owQ_ow, ev_lenOS, ev_dLenO, wq01, wq02, wq03, wq10, wq12, wq13, wq20, wq21, wq23, wq30, wq31, wq32, wq40, wq41, wq42, wq43])
theorem cut_last45 (ds : List PyData) : cutD ds none (some (-1)) = ds.dropLast := by
  have e1 : HT.sIx ds.length 0 none = 0 := rfl
  have e2 : HT.sIx ds.length ds.length (some (-1)) = ds.length - 1 := by
    simp only [HT.sIx]
    rw [if_pos (by decide)]
    omega
  unfold cutD
  rw [e1, e2, List.drop_zero, Nat.sub_zero, List.dropLast_eq_take]
theorem stepped45 {m : Nat} {j : List PyData} {w s r : Int} {os : List Op} (hj : Jar m j) (hm : m ≤ 10 ^ 12) (h : Good w s r) (hl : os.length ≤ 900) (hk : OkOps w s os) :
    Ev (m_stepped [.bx .l j, OB w s r os, .im (Mc w s r), .im (.list (os.map opD))]) fun y => ∃ os' q j', y = (q, [.bx .l j', OB w s r os', .im (Mc w s r), .im (.list (os.map opD))]) ∧ (q = .im (.list (os'.map opD)) ∨ q = .bx .l (os'.map opD)) ∧ os'.length ≤ os.length + 1 ∧ OkOps w s os' ∧ Jar (m + 30) j' := by
  have lol : Lo 2 (.list (os.map opD)) := lo_list (k := 1) fun d hd => by
    obtain ⟨o, _, rfl⟩ := List.mem_map.mp hd
    exact opD_lo o
  unfold m_stepped
  walk_at "go"
  refine gd_mk ⟨lol.shaped (by omega), by decide⟩ ?_
  rcases List.eq_nil_or_concat os with rfl | ⟨os0, o0, rfl⟩
  · rw [show PyData.eqvAll (List.map opD []) [] = true from rfl]
    walk_at "go"
    refine (next44_spec hj (by omega) h (by omega) (by omega)).mono ?_
    rintro _ ⟨o, j2, rfl, ho, hj⟩
    walk_at "go"
    have hl9 : (([] : List Op)).length ≤ 1000 := by simp at hl ⊢; try omega
    have ec := call44_ok h hl9 hk ho
    have hk2 := hk.snoc ho
    unfold OB Ob at *
    walk_at "go"
    rw [ec]
    walk_at "go"
    walk_at "go"
    refine ⟨([] : List Op) ++ [o], _, _, rfl, .inr ?_, by simp, hk2, hj.mono (by omega)⟩
    simp
  · rw [List.concat_eq_append] at *
    have hn : os0 ++ [o0] ≠ [] := by simp
    have hmap : (os0 ++ [o0]).map opD = os0.map opD ++ [opD o0] := by rw [List.map_append]; rfl
    have heq : PyData.eqvAll ((os0 ++ [o0]).map opD) [] = false := by rw [hmap, eqv_snoc]
    have eu := undoO h hn (by omega)
    rw [List.dropLast_concat] at eu
    have hcut : cutD ((os0 ++ [o0]).map opD) none (some (-1)) = os0.map opD := by rw [cut_last45, hmap, List.dropLast_concat]
    rw [heq]
    walk_at "go"
    refine (drawS_spec hj (by omega) (by omega) (by omega)).mono ?_
    rintro _ ⟨r1, j_r1, rfl, r10, r11, hj⟩
    walk_at "go"
    refine br_mk (fun h1 => ?_) fun h1 => ?_
    · unfold OB Ob at eu ⊢
      walk_at "go"
      rw [eu]
      walk_at "go"
      walk_at "go"
      rw [hcut]
      walk_at "go"
      refine ⟨os0, _, _, rfl, .inr rfl, by simp; omega, fun o ho => hk o (List.mem_append_left _ ho), hj.mono (by omega)⟩
    · walk_at "go"
      refine (next44_spec hj (by omega) h (by omega) (by omega)).mono ?_
      rintro _ ⟨o, j2, rfl, ho, hj⟩
      walk_at "go"
      have hl9 : ((os0 ++ [o0])).length ≤ 1000 := by simp at hl ⊢; try omega
      have ec := call44_ok h hl9 hk ho
      have hk2 := hk.snoc ho
      unfold OB Ob at *
      walk_at "go"
      rw [ec]
      walk_at "go"
      walk_at "go"
      refine ⟨(os0 ++ [o0]) ++ [o], _, _, rfl, .inr ?_, by simp, hk2, hj.mono (by omega)⟩
      simp
end
section
local macro_rules | `(tactic| walk_at "kn") => `(tactic| simp (discharger := walk_at "dis") only [macS_mo, ev_dFldR, ev_dMethR, ev_dPropR, ev_dIsR, ev_dLenR, ev_dDIn, ev_dDGet, keyOf_str, imS_im, ev_sForApp, owQ_ow, ev_lenOS, ev_dLenO, wq01, wq02, wq03, wq10, wq12, wq13, wq20, wq21, wq23, wq30, wq31, wq32, wq40, wq41, wq42, wq43])
theorem ev_lenFam {S : Sl × List Sl → Prop} {f : Nat} {L : LD} {δ : List Sl} (hf : famL δ[f]? = some L) (q : S (.im (.int L.length), δ)) : Ev (dLenFam f δ) S := by
  unfold dLenFam
  rw [hf]
  exact Ev.of rfl q
theorem ev_row1 {S : Sl × List Sl → Prop} {f j k : Nat} {L : LD} {δ : List Sl} {y : List PyData × PyData} (hf : famL δ[f]? = some L) (hk : rowK δ[j]? = some k) (hy : L[k]? = some y) (q : S (.im y.2, δ)) : Ev (dRow1 f j δ) S := by
  unfold dRow1
  rw [hf]
  show Ev ((rowK δ[j]?).bind fun k => L[k]?.bind fun y => some (.im y.2, δ)) S
  rw [hk]
  show Ev (L[k]?.bind fun y => some (.im y.2, δ)) S
  rw [hy]
  exact Ev.of rfl q
theorem ev_rowAt {U : Fl × List Sl → Prop} {f j : Nat} {F : Ex} {L0 : LD} {δ : List Sl} (hf : famL δ[f]? = some L0) (h : Ev (F δ) fun x => ∃ (i : Int) (L : LD), x.1 = .im (.int i) ∧ famL x.2[f]? = some L ∧ (0 ≤ i ∧ i.toNat < L.length ∧ f ≠ j ∧ j < x.2.length ∧ noMoB (clr f j x.2) = true) ∧ U (.nx, x.2.set j (.mo (rowI i.toNat)))) : Ev (sRowAt f j F δ) U := by
  obtain ⟨⟨r, δ1⟩, e1, i, L, hr, hL, hc, q⟩ := h
  have hr : r = .im (.int i) := hr
  subst hr
  refine Ev.of (a := (.nx, δ1.set j (.mo (rowI i.toNat)))) ?_ q
  unfold sRowAt
  rw [hf]
  show (F δ).bind _ = _
  rw [e1]
  show (famL δ1[f]?).bind _ = _
  rw [hL]
  exact if_pos hc
theorem ev_rowPut {U : Fl × List Sl → Prop} {f j : Nat} {F : Ex} {δ : List Sl} (h : Ev (F δ) fun x => ∃ (d : PyData) (L : LD) (k : Nat) (y : List PyData × PyData), x.1.sh = some d ∧ famL x.2[f]? = some L ∧ rowK x.2[j]? = some k ∧ L[k]? = some y ∧ (noMoB (clr f j x.2) = true ∧ f ≠ j) ∧ U (.nx, back2 f j (L.set k (y.1, d)) k x.2)) : Ev (sRowPut f j F δ) U := by
  obtain ⟨⟨r, δ1⟩, e1, d, L, k, y, hr, hL, hk, hy, hc, q⟩ := h
  refine Ev.of (a := (.nx, back2 f j (L.set k (y.1, d)) k δ1)) ?_ q
  unfold sRowPut
  rw [e1]
  show r.sh.bind _ = _
  rw [hr]
  show (famL δ1[f]?).bind _ = _
  rw [hL]
  show (rowK δ1[j]?).bind _ = _
  rw [hk]
  show L[k]?.bind _ = _
  rw [hy]
  exact if_pos hc
theorem ev_rowM {S : Sl × List Sl → Prop} {f j k : Nat} {fn : Fn} {L : LD} {δ : List Sl} {y : List PyData × PyData} {d : PyData} {ds : List PyData} (hf : famL δ[f]? = some L) (hk : rowK δ[j]? = some k) (hy : L[k]? = some y) (nm : noMoB (clr f j δ) = true) (e : fn [.bx (.o liFs) y.1] = some (.im d, [.bx (.o liFs) ds]))
    (q : S (.im d, backS f j (L.set k (ds, y.2)) k (clr f j δ))) : Ev (dRowM f j fn δ) S := by
  refine Ev.of (a := (.im d, backS f j (L.set k (ds, y.2)) k (clr f j δ))) ?_ q
  unfold dRowM
  rw [hf]
  show (rowK δ[j]?).bind _ = _
  rw [hk]
  show L[k]?.bind _ = _
  rw [hy]
  show (if noMoB (clr f j δ) = true then _ else _) = _
  rw [if_pos nm, e]
  rfl
theorem ev_rowS {S : Sl × List Sl → Prop} {f j a b k : Nat} {fn : Fn} {L : LD} {δ : List Sl} {y : List PyData × PyData} {js : List PyData} {kd : PyData} (hf : famL δ[f]? = some L) (hk : rowK δ[j]? = some k) (hy : L[k]? = some y) (ha : δ[a]? = some (.bx .l js)) (hb : δ[b]? = some (.im kd)) (nm : noMoB (clr f j δ) = true ∧ a ≠ f ∧ a ≠ j ∧ b ≠ f ∧ b ≠ j)
    (h : Ev (fn [.bx .l js, .bx (.o liFs) y.1, .im kd, .im y.2]) fun z => ∃ r js' ds s t, z = (r, [.bx .l js', .bx (.o liFs) ds, s, t]) ∧ plR r = true ∧ S (r, backS f j (L.set k (ds, y.2)) k ((clr f j δ).set a (.bx .l js')))) : Ev (dRowS f j a b fn δ) S := by
  obtain ⟨z, e, r, js', ds, s, t, rfl, hp, q⟩ := h
  refine Ev.of (a := (r, backS f j (L.set k (ds, y.2)) k ((clr f j δ).set a (.bx .l js')))) ?_ q
  unfold dRowS
  rw [hf]
  show (rowK δ[j]?).bind _ = _
  rw [hk]
  show L[k]?.bind _ = _
  rw [hy]
  show (dRowS.owQs δ[a]?).bind _ = _
  rw [ha]
  show (dRowS.imQ δ[b]?).bind _ = _
  rw [hb]
  show (if noMoB (clr f j δ) = true ∧ a ≠ f ∧ a ≠ j ∧ b ≠ f ∧ b ≠ j then _ else _) = _
  rw [if_pos nm, e]
  exact if_pos hp
theorem ev_appF {U : Fl × List Sl → Prop} {f j k : Nat} {fn : Fn} {L : LD} {δ : List Sl} {y : List PyData × PyData} {ds es : List PyData} (hf : famL δ[f]? = some L) (hk : rowK δ[j]? = some k) (hy : L[k]? = some y) (nm : noMoB (clr f j δ) = true ∧ L.length < LINE) (e : fn [.bx (.o liFs) y.1] = some (.bx (.o liFs) ds, [.bx (.o liFs) es]))
    (q : U (.nx, backS f j ((L.set k (es, y.2)) ++ [(ds, y.2)]) k (clr f j δ))) : Ev (sAppF f j fn δ) U := by
  refine Ev.of (a := (.nx, backS f j ((L.set k (es, y.2)) ++ [(ds, y.2)]) k (clr f j δ))) ?_ q
  unfold sAppF
  rw [hf]
  show (rowK δ[j]?).bind _ = _
  rw [hk]
  show L[k]?.bind _ = _
  rw [hy]
  show (if noMoB (clr f j δ) = true ∧ L.length < LINE then _ else _) = _
  rw [if_pos nm, e]
  rfl
theorem ev_famC {S : Sl × List Sl → Prop} {b f : Nat} {fn : Fn} {L : LD} {δ : List Sl} {kd : PyData} {v : Bool} {ss : List Sl} (hf : famL δ[f]? = some L) (hb : δ[b]? = some (.im kd)) (e : fn [.im kd, .mo (famI L)] = some (.im (.bool v), ss)) (q : S (.im (.bool v), δ)) : Ev (dFamC b f fn δ) S := by
  refine Ev.of (a := (.im (.bool v), δ)) ?_ q
  unfold dFamC
  rw [hf]
  show (dRowS.imQ δ[b]?).bind _ = _
  rw [hb]
  show (fn [.im kd, .mo (famI L)]).bind _ = _
  rw [e]
  rfl
theorem ev_loopR {U : Fl × List Sl → Prop} {f j n : Nat} {B : Sm} (Inv : Nat → List Sl → Prop) : ∀ (c k : Nat) (δ : List Sl), Inv k δ → k + c = n → (∀ k δ, Inv k δ → (∃ L, famL δ[f]? = some L ∧ L.length = n) ∧ j < δ.length) →
    (∀ k δ, k < n → Inv k δ → Ev (B (δ.set j (.mo (rowI k)))) fun x => kLoop (Inv (k + 1)) U x.1 x.2) → (∀ δ, Inv n δ → U (.nx, δ)) → Ev (loopR f j n B (List.range' k c) δ) U
  | 0, k, δ, h, hn, hi, s, e => by
    obtain ⟨⟨L, hL, hl⟩, _⟩ := hi k δ h
    refine Ev.of (a := (.nx, δ)) ?_ (e δ (by rwa [show n = k by omega]))
    show (famL δ[f]?).bind _ = _
    rw [hL]
    exact if_pos hl
  | c + 1, k, δ, h, hn, hi, s, e => by
    obtain ⟨⟨L, hL, hl⟩, hj⟩ := hi k δ h
    obtain ⟨⟨fl, δ'⟩, e1, hx⟩ := s k δ (by omega) h
    have rest : Inv (k + 1) δ' → Ev (loopR f j n B (List.range' (k + 1) c) δ') U := fun h => ev_loopR Inv c (k + 1) δ' h (by omega) hi s e
    rw [List.range'_succ]
    unfold loopR
    rw [hL]
    show Ev (if L.length = n ∧ k < n ∧ j < δ.length then _ else _) U
    rw [if_pos ⟨hl, by omega, hj⟩, e1]
    cases fl with
    | nx => exact rest hx
    | ct => exact rest hx
    | bk => exact Ev.of rfl hx
    | rt r => exact Ev.of rfl hx
theorem ev_forRow {U : Fl × List Sl → Prop} {f j : Nat} {B : Sm} {L : LD} {δ : List Sl} (hf : famL δ[f]? = some L) (hj : j < δ.length) (Inv : Nat → List Sl → Prop) (h : Inv 0 δ) (hi : ∀ k δ, Inv k δ → (∃ L', famL δ[f]? = some L' ∧ L'.length = L.length) ∧ j < δ.length)
    (s : ∀ k δ, k < L.length → Inv k δ → Ev (B (δ.set j (.mo (rowI k)))) fun x => kLoop (Inv (k + 1)) U x.1 x.2) (e : ∀ δ, Inv L.length δ → U (.nx, δ)) : Ev (sForRow f j B δ) U := by
  unfold sForRow
  rw [hf]
  show Ev (if j < δ.length then loopR f j L.length B (List.range L.length) δ else none) U
  rw [if_pos hj, List.range_eq_range']
  exact ev_loopR Inv L.length 0 δ h (by omega) hi s e
theorem ev_newF {U : Fl × List Sl → Prop} {i c f j : Nat} {fnI fn : Fn} {as : List Ag} {Mid B : Sm} {δ δa : List Sl} {ds : List PyData} (e : dMake fnI as δ = some (.bx (.o liFs) ds, δa)) (q : Ev (Mid ((δa.set i (.bx (.o liFs) ds)).set c (.bx .l []))) fun y => ∃ z, y = (.nx, z) ∧ Ev (sFam i c f j fn B z) U) : Ev (sNewF i c f j fnI as fn Mid B δ) U := by
  obtain ⟨y, e1, z, rfl, q⟩ := q
  unfold sNewF
  rw [e]
  show Ev ((Mid ((δa.set i (.bx (.o liFs) ds)).set c (.bx .l []))).bind _) U
  rw [e1]
  exact q
theorem ev_fam {U : Fl × List Sl → Prop} {i c f j : Nat} {fn : Fn} {B : Sm} {δ : List Sl} {ds cs : List PyData} (hi : δ[i]? = some (.bx (.o liFs) ds)) (hc : δ[c]? = some (.bx .l cs)) (hic : i ≠ c ∧ f < δ.length) (e : fn [.bx (.o liFs) ds] = some (.bx (.o liFs) ds, [.bx (.o liFs) ds]))
    (q : Ev (B (((δ.set c (.im (.list cs))).set i .no).set f (.mo (famI [(ds, .list cs), (ds, .list cs), (ds, .list cs), (ds, .list cs)])))) fun z => (noMoB (clr f j z.2) = true ∧ plFl z.1 = true) ∧ U (z.1, clr f j z.2)) : Ev (sFam i c f j fn B δ) U := by
  obtain ⟨z, e1, hp, q⟩ := q
  have hfr : frk fn ds = some (ds, ds) := by unfold frk; rw [e]; rfl
  refine Ev.of (a := (z.1, clr f j z.2)) ?_ q
  unfold sFam
  rw [hi]
  show (dRowS.owQs δ[c]?).bind _ = _
  rw [hc]
  show (frk fn ds).bind _ = _
  rw [hfr]
  show (frk fn ds).bind _ = _
  rw [hfr]
  show (frk fn ds).bind _ = _
  rw [hfr]
  show (frk fn ds).bind _ = _
  rw [hfr]
  show (if i ≠ c ∧ f < δ.length then _ else _) = _
  rw [if_pos hic]
  show (B (((δ.set c (.im (.list cs))).set i .no).set f (.mo (famI [(ds, .list cs), (ds, .list cs), (ds, .list cs), (ds, .list cs)])))).bind _ = _
  rw [e1]
  exact if_pos hp
end
section
local macro_rules | `(tactic| walk_at "kn") => `(tactic| simp (discharger := walk_at "dis") only [macS_mo, ev_dFldR, ev_dMethR, ev_dPropR, ev_dIsR, ev_dLenR, ev_dDIn, ev_dDGet, keyOf_str, imS_im, ev_sForApp, owQ_ow, ev_lenOS, ev_dLenO, wq01, wq02, wq03, wq10, wq12, wq13, wq20, wq21, wq23, wq30, wq31, wq32, wq40, wq41, wq42, wq43])
theorem famD_set (w s r : Int) (fs : List (List Op)) (k : Nat) (os : List Op) : (famD w s r fs).set k ([Mc w s r, .list (rowsO w s r (st00 w s) os)], .list (os.map opD)) = famD w s r (fs.set k os) := by
  unfold famD
  rw [List.map_set]
theorem famD_snoc (w s r : Int) (fs : List (List Op)) (os : List Op) : famD w s r fs ++ [([Mc w s r, .list (rowsO w s r (st00 w s) os)], .list (os.map opD))] = famD w s r (fs ++ [os]) := by
  unfold famD
  rw [List.map_append]
  rfl
theorem famD_get {w s r : Int} {fs : List (List Op)} {k : Nat} {os : List Op} (h : fs[k]? = some os) : (famD w s r fs)[k]? = some ([Mc w s r, .list (rowsO w s r (st00 w s) os)], .list (os.map opD)) := by
  unfold famD
  rw [List.getElem?_map, h]
  rfl
theorem fam45 {m : Nat} {j : List PyData} {w s r n : Int} {os : List Op} {q5 : Sl} (hj : Jar (m + 500) j) (hm : m ≤ 10 ^ 11) (h : Good w s r) (hl : os.length ≤ 15) (hk : OkOps w s os) (h5 : q5 = .no ∨ ∃ d, q5 = .im d) :
    Ev (sFam 3 4 6 7 m_o_fork b_right [.bx .l j, .im (Mc w s r), .im (.int n), OB w s r os, .bx .l (os.map opD), q5, .no, .no]) fun x => ∃ j' q3 q4 q5 q6 q7, x = (.rt (.im (.bool true)), [.bx .l j', .im (Mc w s r), .im (.int n), q3, q4, q5, q6, q7]) ∧ Jar (m + 9000) j' := by
  have hf := forkO h os
  have hfs : ∀ fs : List (List Op), famL (some (.mo (famI (famD w s r fs)))) = some (famD w s r fs) := fun fs => famL_D w s r fs
  unfold OB Ob at hf ⊢
  refine ev_fam (ds := [Mc w s r, .list (rowsO w s r (st00 w s) os)]) (cs := os.map opD) rfl rfl ⟨by decide, show 6 < 8 by decide⟩ hf ?_
  show Ev (b_right [.bx .l j, .im (Mc w s r), .im (.int n), .no, .im (.list (os.map opD)), q5, .mo (famI (famD w s r [os, os, os, os])), .no]) _
  unfold b_right
  walk_at "go"
  refine ev_loop0 (fun k δ => ∃ fs j' q4 q5 q7, δ = [.bx .l j', .im (Mc w s r), .im (.int n), .no, .im q4, q5, .mo (famI (famD w s r fs)), q7] ∧ (q5 = .no ∨ ∃ d, q5 = .im d) ∧ 4 ≤ fs.length ∧ fs.length ≤ 6 ∧ (∀ o ∈ fs, o.length ≤ 15 + k ∧ OkOps w s o) ∧ Jar (m + 500 + 60 * k) j')
    ⟨[os, os, os, os], _, _, _, _, rfl, h5, (show 4 ≤ 4 by decide), (show 4 ≤ 6 by decide), (fun o ho => by simp at ho; rw [ho]; exact ⟨hl, hk⟩), hj⟩ (fun k d δ hd h' => ?_) fun δ h' => ?_
  · obtain ⟨fs, j1, q4, q5, q7, rfl, h5, hf4, hf6, hfk, hj⟩ := h'
    obtain ⟨hi, rfl⟩ := range_get hd
    clear hd
    walk_at "go"
    refine ev_rowAt (hfs fs) ?_
    walk_at "go"
    refine ev_lenFam (hfs fs) ?_
    rw [famD_len]
    walk_at "go"
    refine (drawS_spec hj (by omega) (by omega) (by omega)).mono ?_
    rintro _ ⟨r1, j_r1, rfl, r10, r11, hj⟩
    walk_at "go"
    refine ⟨r1, famD w s r fs, rfl, hfs fs, ⟨by omega, by rw [famD_len]; omega, by decide, (show 7 < 8 by decide), rfl⟩, ?_⟩
    have hi2 : r1.toNat < fs.length := by omega
    have ho : fs[r1.toNat]? = some fs[r1.toNat] := List.getElem?_eq_getElem hi2
    generalize fs[r1.toNat] = o at ho
    have hom := List.mem_of_getElem? ho
    obtain ⟨hol, hok⟩ := hfk o hom
    have hset : ∀ p ∈ fs.set r1.toNat o, p.length ≤ 15 + k ∧ OkOps w s p := fun p hp => by
      rcases List.mem_or_eq_of_mem_set hp with z | z
      · exact hfk p z
      · rw [z]; exact ⟨hol, hok⟩
    have fin : ∀ (gs : List (List Op)) (j2 : List PyData), 4 ≤ gs.length → gs.length ≤ 6 → (∀ p ∈ gs, p.length ≤ 15 + (k + 1) ∧ OkOps w s p) → Jar (m + 500 + 60 * (k + 1)) j2 → r_are_right [.im (Mc w s r), .mo (famI (famD w s r gs))] = some (.im (.bool true), [.im (Mc w s r), .mo (famI (famD w s r gs))]) := fun gs j2 g4 g6 gk gj => are45_ok h (fun z => by rw [z] at g4; simp at g4) (by omega) fun p hp => ⟨by have := (gk p hp).1; omega, (gk p hp).2⟩
    walk_at "go"
    refine ev_lenFam (hfs fs) ?_
    rw [famD_len]
    walk_at "go"
    refine br_mk (fun h1 => ?_) fun h1 => ?_
    · walk_at "go"
      refine (drawS_spec hj (by omega) (by omega) (by omega)).mono ?_
      rintro _ ⟨r2, j_r2, rfl, r20, r21, hj⟩
      walk_at "go"
      refine br_mk (fun h2 => ?_) fun h2 => ?_
      · have hfo := forkO h o
        unfold OB Ob at hfo
        have hset2 : ∀ p ∈ fs.set r1.toNat o ++ [o], p.length ≤ 15 + (k + 1) ∧ OkOps w s p := fun p hp => by
          rcases List.mem_append.mp hp with z | z
          · exact ⟨by have := (hset p z).1; omega, (hset p z).2⟩
          · rw [List.mem_singleton.mp z]; exact ⟨by omega, hok⟩
        have hlen : (fs.set r1.toNat o ++ [o]).length = fs.length + 1 := by rw [List.length_append, List.length_set]; rfl
        refine ev_appF (y := ([Mc w s r, .list (rowsO w s r (st00 w s) o)], .list (o.map opD))) (hfs fs) (rowK_mo _) (famD_get ho) ⟨rfl, by rw [famD_len]; show _ < 16777216; omega⟩ hfo ?_
        rw [famD_set, famD_snoc]
        unfold backS clr
        walk_at "go"
        have hj3 : Jar (m + 500 + 60 * (k + 1)) j_r2 := hj.mono (by omega)
        refine ev_famC (hfs _) rfl (fin _ _ (by omega) (by omega) hset2 hj3) ?_
        walk_at "go"
        exact ⟨_, _, _, _, _, rfl, .inr ⟨_, rfl⟩, by omega, by omega, hset2, hj3⟩
      · walk_at "go"
        refine ev_rowPut ?_
        have hs := stepped45 (os := o) hj (by omega) h (by omega) hok
        unfold OB Ob at hs
        refine ev_rowS (y := ([Mc w s r, .list (rowsO w s r (st00 w s) o)], .list (o.map opD))) (hfs fs) (rowK_mo _) (famD_get ho) rfl rfl ⟨rfl, by decide, by decide, by decide, by decide⟩ (hs.mono fun z hz => ?_)
        obtain ⟨os', q, j', rfl, hq, hl', hk', hj'⟩ := hz
        refine ⟨q, j', _, _, _, rfl, (by rcases hq with rfl | rfl <;> rfl), ?_⟩
        refine ⟨.list (os'.map opD), (famD w s r fs).set r1.toNat ([Mc w s r, .list (rowsO w s r (st00 w s) os')], .list (o.map opD)), r1.toNat, ([Mc w s r, .list (rowsO w s r (st00 w s) os')], .list (o.map opD)), (by rcases hq with rfl | rfl <;> rfl), famL_mo _, rowK_mo _, List.getElem?_set_self (by rw [famD_len]; exact hi2), ⟨rfl, by decide⟩, ?_⟩
        rw [List.set_set, famD_set]
        unfold back2 backS clr
        walk_at "go"
        refine ev_row1 (hfs _) (rowK_mo _) (famD_get (List.getElem?_set_self hi2)) ?_
        walk_at "go"
        have hset2 : ∀ p ∈ fs.set r1.toNat os', p.length ≤ 15 + (k + 1) ∧ OkOps w s p := fun p hp => by
          rcases List.mem_or_eq_of_mem_set hp with z | z
          · exact ⟨by have := (hfk p z).1; omega, (hfk p z).2⟩
          · rw [z]; exact ⟨by omega, hk'⟩
        have hj3 : Jar (m + 500 + 60 * (k + 1)) j' := hj'.mono (by omega)
        refine ev_famC (hfs _) rfl (fin _ _ (by rw [List.length_set]; exact hf4) (by rw [List.length_set]; exact hf6) hset2 hj3) ?_
        walk_at "go"
        exact ⟨_, _, _, _, _, rfl, .inr ⟨_, rfl⟩, by rw [List.length_set]; exact hf4, by rw [List.length_set]; exact hf6, hset2, hj3⟩
    · walk_at "go"
      refine ev_rowPut ?_
      have hs := stepped45 (os := o) hj (by omega) h (by omega) hok
      unfold OB Ob at hs
      refine ev_rowS (y := ([Mc w s r, .list (rowsO w s r (st00 w s) o)], .list (o.map opD))) (hfs fs) (rowK_mo _) (famD_get ho) rfl rfl ⟨rfl, by decide, by decide, by decide, by decide⟩ (hs.mono fun z hz => ?_)
      obtain ⟨os', q, j', rfl, hq, hl', hk', hj'⟩ := hz
      refine ⟨q, j', _, _, _, rfl, (by rcases hq with rfl | rfl <;> rfl), ?_⟩
      refine ⟨.list (os'.map opD), (famD w s r fs).set r1.toNat ([Mc w s r, .list (rowsO w s r (st00 w s) os')], .list (o.map opD)), r1.toNat, ([Mc w s r, .list (rowsO w s r (st00 w s) os')], .list (o.map opD)), (by rcases hq with rfl | rfl <;> rfl), famL_mo _, rowK_mo _, List.getElem?_set_self (by rw [famD_len]; exact hi2), ⟨rfl, by decide⟩, ?_⟩
      rw [List.set_set, famD_set]
      unfold back2 backS clr
      walk_at "go"
      refine ev_row1 (hfs _) (rowK_mo _) (famD_get (List.getElem?_set_self hi2)) ?_
      walk_at "go"
      have hset2 : ∀ p ∈ fs.set r1.toNat os', p.length ≤ 15 + (k + 1) ∧ OkOps w s p := fun p hp => by
        rcases List.mem_or_eq_of_mem_set hp with z | z
        · exact ⟨by have := (hfk p z).1; omega, (hfk p z).2⟩
        · rw [z]; exact ⟨by omega, hk'⟩
      have hj3 : Jar (m + 500 + 60 * (k + 1)) j' := hj'.mono (by omega)
      refine ev_famC (hfs _) rfl (fin _ _ (by rw [List.length_set]; exact hf4) (by rw [List.length_set]; exact hf6) hset2 hj3) ?_
      walk_at "go"
      exact ⟨_, _, _, _, _, rfl, .inr ⟨_, rfl⟩, by rw [List.length_set]; exact hf4, by rw [List.length_set]; exact hf6, hset2, hj3⟩
  · obtain ⟨fs, j1, q4, q5, q7, rfl, h5, hf4, hf6, hfk, hj⟩ := h'
    have hj : Jar (m + 9000) j1 := hj.mono (by rw [range_len]; omega)
    have hfk : ∀ p ∈ fs, p.length ≤ 40 ∧ OkOps w s p := fun p hp => ⟨by have := (hfk p hp).1; rw [range_len] at this; omega, (hfk p hp).2⟩
    have nmB : ∀ (fm q7 : Sl), noMoB (clr 6 7 [.bx .l j1, .im (Mc w s r), .im (.int n), .no, .im q4, q5, fm, q7]) = true := fun fm q7 => by rcases h5 with rfl | ⟨d, rfl⟩ <;> rfl
    walk_at "go"
    refine ev_forRow (hfs fs) (show 7 < 8 by decide) (fun k δ => ∃ gs q7, δ = [.bx .l j1, .im (Mc w s r), .im (.int n), .no, .im q4, q5, .mo (famI (famD w s r gs)), q7] ∧ gs.length = fs.length ∧ ∀ p ∈ gs, p.length ≤ 40 ∧ OkOps w s p)
      ⟨fs, q7, rfl, rfl, hfk⟩ (fun k δ h' => ?_) (fun k δ hkl h' => ?_) fun δ h' => ?_
    · obtain ⟨gs, q7, rfl, hgl, _⟩ := h'
      exact ⟨⟨_, hfs gs, by rw [famD_len, famD_len, hgl]⟩, show 7 < 8 by decide⟩
    · obtain ⟨gs, q7, rfl, hgl, hgk⟩ := h'
      rw [famD_len] at hkl
      have hko : gs[k]? = some (gs[k]'(by omega)) := List.getElem?_eq_getElem _
      generalize gs[k]'(by omega) = o at hko
      show Ev (sSeq _ _ [.bx .l j1, .im (Mc w s r), .im (.int n), .no, .im q4, q5, .mo (famI (famD w s r gs)), .mo (rowI k)]) _
      walk_at "go"
      refine ev_while (fun N δ => ∃ gs o, δ = [.bx .l j1, .im (Mc w s r), .im (.int n), .no, .im q4, q5, .mo (famI (famD w s r gs)), .mo (rowI k)] ∧ gs.length = fs.length ∧ gs[k]? = some o ∧ o.length = N ∧ ∀ p ∈ gs, p.length ≤ 40 ∧ OkOps w s p)
        (n := o.length) ⟨gs, o, rfl, hgl, hko, rfl, hgk⟩ fun N δ h' => ?_
      clear hko hgl hgk gs o
      obtain ⟨gs, o, rfl, hgl, hko, rfl, hgk⟩ := h'
      obtain ⟨hol, hok⟩ := hgk o (List.mem_of_getElem? hko)
      have lol : Lo 2 (.list (o.map opD)) := lo_list (k := 1) fun d hd => by
        obtain ⟨o, _, rfl⟩ := List.mem_map.mp hd
        exact opD_lo o
      walk_at "go"
      refine ev_row1 (hfs gs) (rowK_mo _) (famD_get hko) ?_
      walk_at "go"
      refine gd_mk ⟨lol.shaped (by omega), by decide⟩ ?_
      rcases List.eq_nil_or_concat o with rfl | ⟨o0, a0, rfl⟩
      · rw [show PyData.eqvAll (List.map opD []) [] = true from rfl]
        walk_at "go"
        refine ev_famC (hfs gs) rfl (are45_ok h (fun z => by rw [z] at hgl; simp at hgl; omega) (by omega) fun p hp => ⟨by have := (hgk p hp).1; omega, (hgk p hp).2⟩) ?_
        walk_at "go"
        exact ⟨gs, _, rfl, hgl, hgk⟩
      · rw [List.concat_eq_append] at *
        have hmap : (o0 ++ [a0]).map opD = o0.map opD ++ [opD a0] := by rw [List.map_append]; rfl
        have heq : PyData.eqvAll ((o0 ++ [a0]).map opD) [] = false := by rw [hmap, eqv_snoc]
        have eu := undoO h (os := o0 ++ [a0]) (by simp) (by omega)
        rw [List.dropLast_concat] at eu
        have hcut : cutD ((o0 ++ [a0]).map opD) none (some (-1)) = o0.map opD := by rw [cut_last45, hmap, List.dropLast_concat]
        have hkl2 : k < gs.length := by omega
        have hok0 : OkOps w s o0 := fun o ho => hok o (List.mem_append_left _ ho)
        have hol0 : o0.length ≤ 40 := by rw [List.length_append] at hol; omega
        have et := told44_ok (os := o0) h (by omega) hok0
        have ed := due44_ok (os := o0) h (by omega) hok0
        unfold OB Ob at eu et
        have h0 : (gs.set k o0)[k]? = some o0 := List.getElem?_set_self hkl2
        rw [heq]
        walk_at "go"
        refine ev_rowPut ?_
        walk_at "go"
        refine ev_row1 (hfs gs) (rowK_mo _) (famD_get hko) ?_
        walk_at "go"
        rw [hcut]
        walk_at "go"
        refine ⟨.list (o0.map opD), famD w s r gs, k, _, rfl, hfs gs, rowK_mo _, famD_get hko, ⟨nmB _ _, by decide⟩, ?_⟩
        unfold back2 clr
        walk_at "go"
        refine ev_rowM (y := ([Mc w s r, .list (rowsO w s r (st00 w s) (o0 ++ [a0]))], .list (o0.map opD))) (famL_mo _) (rowK_mo _) (List.getElem?_set_self (by rw [famD_len]; exact hkl2)) (nmB _ _) eu ?_
        rw [List.set_set, famD_set]
        unfold backS clr
        walk_at "go"
        refine ev_rowM (y := ([Mc w s r, .list (rowsO w s r (st00 w s) o0)], .list (o0.map opD))) (hfs _) (rowK_mo _) (famD_get h0) (nmB _ _) et ?_
        rw [famD_set, List.set_set]
        unfold backS clr
        walk_at "go"
        refine ev_row1 (hfs _) (rowK_mo _) (famD_get h0) ?_
        walk_at "go"
        rw [ed]
        walk_at "go"
        walk_at "go"
        refine ⟨o0.length, by simp, gs.set k o0, o0, rfl, by rw [List.length_set]; exact hgl, h0, rfl, fun p hp => ?_⟩
        rcases List.mem_or_eq_of_mem_set hp with z | z
        · exact hgk p z
        · rw [z]; exact ⟨hol0, hok0⟩
    · obtain ⟨gs, q7, rfl, hgl, hgk⟩ := h'
      walk_at "go"
      exact ⟨⟨nmB _ _, rfl⟩, _, _, _, _, _, _, rfl, hj⟩
theorem right45 {m : Nat} {j : List PyData} {w s r n : Int} (hj : Jar m j) (hm : m ≤ 10 ^ 11) (h : Good w s r) (n0 : 0 ≤ n) (n1 : n ≤ 15) :
    Ev (m_right [.bx .l j, .im (Mc w s r), .im (.int n)]) fun y => ∃ j', y = (.im (.bool true), [.bx .l j', .im (Mc w s r), .im (.int n)]) ∧ Jar (m + 10000) j' := by
  have e1 := initO h
  unfold m_right
  walk_at "go"
  refine ev_newF (ds := [Mc w s r, .list (rowsO w s r (st00 w s) [])]) (δa := [.bx .l j, .im (Mc w s r), .im (.int n), .no, .no, .no, .no, .no]) (Ev.eq ?_) ?_
  · unfold OB Ob at e1
    walk_at "go"
    rw [e1]
    walk_at "go"
    walk_at "go"
    all_goals rfl
  walk_at "go"
  refine ev_loop0 (fun k δ => ∃ os j' q5, δ = [.bx .l j', .im (Mc w s r), .im (.int n), OB w s r os, .bx .l (os.map opD), q5, .no, .no] ∧ (q5 = .no ∨ ∃ d, q5 = .im d) ∧ OkOps w s os ∧ os.length = k ∧ Jar (m + 30 * k) j')
    ⟨[], _, _, rfl, .inl rfl, (fun o ho => nomatch ho), rfl, hj⟩ (fun k d δ hd h' => ?_) fun δ h' => ?_
  · obtain ⟨os, j1, q5, rfl, _, hk, hl, hj⟩ := h'
    obtain ⟨hi, rfl⟩ := range_get hd
    have hkk : k < 15 := by omega
    clear hd
    walk_at "go"
    refine (next44_spec hj (by omega) h (by omega) (by omega)).mono ?_
    rintro _ ⟨o, j2, rfl, ho, hj⟩
    walk_at "go"
    have ec := call44_ok h (by omega) hk ho
    have hk2 := hk.snoc ho
    unfold OB Ob at ec ⊢
    walk_at "go"
    rw [last_row]
    walk_at "go"
    rw [ec]
    walk_at "go"
    walk_at "go"
    refine ⟨os ++ [o], j2, .im (.int (0 + (k : Int) * 1)), ?_, .inr ⟨_, rfl⟩, hk2, by simp [hl], hj.mono (by omega)⟩
    rw [List.map_append]
    rfl
  · obtain ⟨os, j1, q5, rfl, h5, hk, hl, hj⟩ := h'
    have hl2 : os.length ≤ 15 := by rw [range_len] at hl; omega
    have hjm : Jar (m + 480) j1 := hj.mono (by rw [range_len]; omega)
    clear hl hj
    have lol : Lo 2 (.list (os.map opD)) := lo_list (k := 1) fun d hd => by
      obtain ⟨o, _, rfl⟩ := List.mem_map.mp hd
      exact opD_lo o
    walk_at "go"
    refine gd_mk ⟨lol.shaped (by omega), by decide⟩ ?_
    have fin : ∀ (os : List Op) (j1 : List PyData), OkOps w s os → os.length ≤ 15 → Jar (m + 500) j1 → Ev (sFam 3 4 6 7 m_o_fork b_right [.bx .l j1, .im (Mc w s r), .im (.int n), OB w s r os, .bx .l (os.map opD), q5, .no, .no]) fun x => kRet [0] [.bx .l j, .im (Mc w s r), .im (.int n)] (fun y => ∃ j', y = (.im (.bool true), [.bx .l j', .im (Mc w s r), .im (.int n)]) ∧ Jar (m + 10000) j') x.1 x.2 := fun os j1 hk hl hj =>
      (fam45 hj (by omega) h hl hk h5).mono fun x hx => by
        obtain ⟨j', q3, q4, q5, q6, q7, rfl, hj⟩ := hx
        walk_at "go"
        exact ⟨_, rfl, hj.mono (by omega)⟩
    rcases List.eq_nil_or_concat os with rfl | ⟨os0, o0, rfl⟩
    · rw [show PyData.eqvAll (List.map opD []) [] = true from rfl]
      walk_at "go"
      exact ⟨_, rfl, fin [] _ hk hl2 (hjm.mono (by omega))⟩
    · rw [List.concat_eq_append] at *
      have hn : os0 ++ [o0] ≠ [] := by simp
      have hmap : (os0 ++ [o0]).map opD = os0.map opD ++ [opD o0] := by rw [List.map_append]; rfl
      have heq : PyData.eqvAll ((os0 ++ [o0]).map opD) [] = false := by rw [hmap, eqv_snoc]
      have eu := undoO h hn (by omega)
      rw [List.dropLast_concat] at eu
      have hcut : cutD ((os0 ++ [o0]).map opD) none (some (-1)) = os0.map opD := by rw [cut_last45, hmap, List.dropLast_concat]
      rw [heq]
      walk_at "go"
      have hj := hjm
      refine (drawS_spec hj (by omega) (by omega) (by omega)).mono ?_
      rintro _ ⟨r1, j_r1, rfl, r10, r11, hj⟩
      walk_at "go"
      refine br_mk (fun h1 => ?_) fun h1 => ?_
      · have fin0 := fin os0 _ (fun o ho => hk o (List.mem_append_left _ ho)) (by rw [List.length_append] at hl2; omega) (hj.mono (by omega))
        unfold OB Ob at eu fin0 ⊢
        walk_at "go"
        rw [hcut]
        walk_at "go"
        rw [eu]
        walk_at "go"
        walk_at "go"
        exact ⟨_, rfl, fin0⟩
      · walk_at "go"
        exact ⟨_, rfl, fin _ _ hk hl2 (hj.mono (by omega))⟩
end
section
local macro_rules | `(tactic| walk_at "kn") => `(tactic| simp (discharger := walk_at "dis") only [macS_mo, ev_dFldR, ev_dMethR, ev_dPropR, ev_dIsR, ev_dLenR, ev_dDIn, ev_dDGet, keyOf_str, imS_im, ev_sForApp, owQ_ow, ev_lenOS, ev_dLenO, wq01, wq02, wq03, wq10, wq12, wq13, wq20, wq21, wq23, wq30, wq31, wq32, wq40, wq41, wq42, wq43])
theorem cut_to45 (ds : List PyData) (n : Nat) (h : n ≤ ds.length) : cutD ds none (some (n : Int)) = ds.take n := by
  have e1 : HT.sIx ds.length 0 none = 0 := rfl
  unfold cutD
  rw [e1, HT.sIx_nat, List.drop_zero, Nat.sub_zero, Nat.min_eq_left h]
theorem longer45 {m : Nat} {j : List PyData} {w s r : Int} {os : List Op} (hj : Jar m j) (hm : m ≤ 10 ^ 12) (h : Good w s r) (hl : os.length = 100) (hk : OkOps w s os) :
    Ev (m_longer_right [.bx .l j, OB w s r os, .im (Mc w s r), .im (.list (os.map opD))]) fun y => ∃ j', y = (.im (.bool true), [.bx .l j', OB w s r os, .im (Mc w s r), .im (.list (os.map opD))]) ∧ Jar (m + 4000) j' := by
  have ef := forkO h os
  have el0 : (os.map opD).length = 100 := by rw [List.length_map, hl]
  unfold m_longer_right
  unfold OB Ob at ef ⊢
  walk_at "go"
  rw [ef]
  walk_at "go"
  walk_at "go"
  refine ev_loop0 (fun k δ => ∃ ts j' q5, δ = [.bx .l j', OB w s r os, .im (Mc w s r), .bx .l (ts.map opD), OB w s r ts, q5, .no, .no] ∧ (q5 = .no ∨ ∃ d, q5 = .im d) ∧ OkOps w s ts ∧ ts.length = 100 + k ∧ Jar (m + 20 * k) j')
    ⟨os, _, _, rfl, .inl rfl, hk, hl, hj⟩ (fun k d δ hd h' => ?_) fun δ h' => ?_
  · obtain ⟨ts, j1, q5, rfl, _, hk, hl, hj⟩ := h'
    obtain ⟨hi, rfl⟩ := range_get hd
    have hkk : k < 100 := by omega
    clear hd
    walk_at "go"
    refine (next44_spec hj (by omega) h (by omega) (by omega)).mono ?_
    rintro _ ⟨o, j2, rfl, ho, hj⟩
    walk_at "go"
    have ec := call44_ok h (by omega) hk ho
    have hk2 := hk.snoc ho
    have elt : (ts.map opD).length = 100 + k := by rw [List.length_map, hl]
    unfold OB Ob at ec ⊢
    walk_at "go"
    rw [last_row]
    walk_at "go"
    rw [ec]
    walk_at "go"
    walk_at "go"
    refine ⟨ts ++ [o], j2, .im (.int (0 + (k : Int) * 1)), ?_, .inr ⟨_, rfl⟩, hk2, by simp [hl]; omega, hj.mono (by omega)⟩
    rw [List.map_append]
    rfl
  · obtain ⟨ts, j1, q5, rfl, h5, hk2, hl2, hj⟩ := h'
    rw [range_len] at hl2 hj
    have e7 := lenO (w := w) (s := s) (r := r) ts
    have et := told44_ok h (by omega) hk2
    have ed := due44_ok h (by omega) hk2
    have ef2 := forkO h ts
    have hno : nolAll (ts.map opD) = true := nolAll_of fun d hd => by
      obtain ⟨o, _, rfl⟩ := List.mem_map.mp hd
      cases o <;> simp [opD, nolD, nolAll]
    rw [hl2] at e7
    unfold OB Ob at *
    walk_at "go"
    rw [e7]
    walk_at "go"
    walk_at "go"
    rw [et]
    walk_at "go"
    walk_at "go"
    rw [ed]
    walk_at "go"
    refine gd_mk hj.nol ?_
    have tk : ∀ i : Nat, i < 200 → m_o_undo [OB w s r (ts.take (i + 1))] = some (.im .none, [OB w s r (ts.take i)]) := fun i hi => by
      have := undoO h (os := ts.take (i + 1)) (fun z => by have := congrArg List.length z; rw [List.length_take, List.length_nil] at this; omega) (by rw [List.length_take]; omega)
      rw [this]
      rw [show (ts.take (i + 1)).dropLast = ts.take i from by rw [List.dropLast_eq_take, List.length_take, List.take_take]; congr 1; omega]
    rcases h5 with rfl | ⟨d5, rfl⟩
    all_goals
      walk_at "go"
      rw [ef2]
      walk_at "go"
      walk_at "go"
      refine ev_lc0 (fun k acc δ => acc = [] ∧ k ≤ 200 ∧ ∃ q5, δ = [.bx .l j1, OB w s r os, .im (Mc w s r), .bx .l (ts.map opD), OB w s r ts, q5, OB w s r (ts.take (200 - k)), .no]) ⟨rfl, by omega, _, by rw [Nat.sub_zero, List.take_of_length_le (by omega)]; rfl⟩ (by rw [range_len]; omega) (fun k d acc δ hd h' => ?_) fun acc δ h' => ?_
      · obtain ⟨rfl, hk9, q5, rfl⟩ := h'
        obtain ⟨hi, rfl⟩ := range_get hd
        have eu := tk (200 - (k + 1)) (by omega)
        rw [show 200 - (k + 1) + 1 = 200 - k by omega] at eu
        unfold OB Ob at *
        walk_at "go"
        rw [eu]
        walk_at "go"
        walk_at "go"
        first | exact ⟨_, rfl⟩ | exact ⟨by omega, _, rfl⟩ | exact ⟨rfl, by omega, _, rfl⟩
      · obtain ⟨rfl, hk9, q5, rfl⟩ := h'
        rw [range_len, Nat.sub_self, List.take_zero]
        have et0 := told44_ok (os := []) h (by simp) (fun o ho => nomatch ho)
        have ed0 := due44_ok (os := []) h (by simp) (fun o ho => nomatch ho)
        rw [show (([] : List Op).map opD) = [] from rfl] at ed0
        unfold OB Ob at *
        walk_at "go"
        rw [et0]
        walk_at "go"
        walk_at "go"
        rw [ed0]
        walk_at "go"
        walk_at "go"
        refine ev_loop0 (fun k δ => k ≤ 60 ∧ ∃ q5 q6 q7, δ = [.bx .l j1, OB w s r os, .im (Mc w s r), .bx .l (ts.map opD), OB w s r (ts.take (200 - k)), q5, q6, q7]) ⟨by omega, _, _, _, by rw [Nat.sub_zero, List.take_of_length_le (by omega)]; rfl⟩ (fun k d δ hd h' => ?_) fun δ h' => ?_
        · obtain ⟨hk9, q5, q6, q7, rfl⟩ := h'
          obtain ⟨hi, rfl⟩ := range_get hd
          have eu := tk (200 - (k + 1)) (by omega)
          rw [show 200 - (k + 1) + 1 = 200 - k by omega] at eu
          have e8 := lenO (w := w) (s := s) (r := r) (ts.take (200 - (k + 1)))
          rw [List.length_take, hl2, show min (200 - (k + 1)) (100 + 100) = 199 - k by omega] at e8
          unfold OB Ob at *
          walk_at "go"
          rw [eu]
          walk_at "go"
          walk_at "go"
          rw [e8]
          walk_at "go"
          walk_at "go"
          repeat ((first | (refine br_pos ?bh ?_; (case bh => first | omega | (simp; omega) | (simp; done))) | (refine br_neg ?bh ?_; (case bh => first | omega | (simp; omega) | (simp; done))) | intro _) <;> walk_at "go")
          first | exact ⟨_, _, _, rfl⟩ | exact ⟨by omega, _, _, _, rfl⟩
        · obtain ⟨hk9, q5, q6, q7, rfl⟩ := h'
          rw [range_len]
          have hk3 : OkOps w s (ts.take 140) := fun o ho => hk2 o (List.mem_of_mem_take ho)
          have et1 := told44_ok (os := ts.take 140) h (by rw [List.length_take]; omega) hk3
          have ed1 := due44_ok (os := ts.take 140) h (by rw [List.length_take]; omega) hk3
          have hc : cutD (ts.map opD) none (some 140) = (ts.take 140).map opD := by
            rw [List.map_take]
            exact cut_to45 _ 140 (by rw [List.length_map]; omega)
          have e9 := lenO (w := w) (s := s) (r := r) os
          rw [hl] at e9
          unfold OB Ob at *
          walk_at "go"
          rw [et1]
          walk_at "go"
          walk_at "go"
          rw [hc]
          walk_at "go"
          rw [ed1]
          walk_at "go"
          walk_at "go"
          rw [e9]
          walk_at "go"
          walk_at "go"
          exact ⟨_, rfl, hj.mono (by omega)⟩
end
section
local macro_rules | `(tactic| walk_at "kn") => `(tactic| simp (discharger := walk_at "dis") only [macS_mo, ev_dFldR, ev_dMethR, ev_dPropR, ev_dIsR, ev_dLenR, ev_dDIn, ev_dDGet, keyOf_str, imS_im, ev_sForApp, owQ_ow, ev_lenOS, ev_dLenO, wq01, wq02, wq03, wq10, wq12, wq13, wq20, wq21, wq23, wq30, wq31, wq32, wq40, wq41, wq42, wq43])
theorem next45_spec {m : Nat} {j : List PyData} {w s r T : Int} (hj : Jar m j) (hm : m ≤ 10 ^ 13) (h : Good w s r) (t0 : 9 ≤ T) (t1 : T ≤ 10 ^ 39) :
    Ev (m_next [.bx .l j, .im (Mc w s r), .im (.int T)]) fun y => ∃ o j', y = (.im (opD o), [.bx .l j', .im (Mc w s r), .im (.int T)]) ∧ (OkOp w s o ∧ ∀ t, o = .turnT t → t ≤ T) ∧ Jar (m + 20) j' := by
  have hw := h.w2
  have hs := h.s1
  have hs2 := h.s2
  unfold m_next
  walk_at "go"
  refine (drawS_spec hj (by omega) (by omega) (by omega)).mono ?_
  rintro _ ⟨r1, j_r1, rfl, r10, r11, hj⟩
  walk_at "go"
  refine br_mk (fun h1 => ?_) fun h1 => ?_
  · walk_at "go"
    refine (figureS_spec hj (by omega) h).mono ?_
    rintro _ ⟨a, j4, rfl, a0, a1, hj⟩
    walk_at "go"
    exact ⟨.setA a, _, rfl, ⟨⟨a0, a1⟩, fun t z => nomatch z⟩, hj.mono (by omega)⟩
  walk_at "go"
  refine br_mk (fun h2 => ?_) fun h2 => ?_
  · walk_at "go"
    refine (drawS_spec hj (by omega) (by omega) (by omega)).mono ?_
    rintro _ ⟨r2, j_r2, rfl, r20, r21, hj⟩
    walk_at "go"
    exact ⟨.shiftP r2, _, rfl, ⟨⟨by omega, by omega⟩, fun t z => nomatch z⟩, hj.mono (by omega)⟩
  walk_at "go"
  refine br_mk (fun h2 => ?_) fun h2 => ?_
  · walk_at "go"
    refine (drawS_spec hj (by omega) (by omega) (by omega)).mono ?_
    rintro _ ⟨r2, j_r2, rfl, r20, r21, hj⟩
    walk_at "go"
    rcases (show r2 = 0 ∨ r2 = 1 by omega) with rfl | rfl
    · walk_at "go"
      exact ⟨.clrR, _, rfl, ⟨trivial, fun t z => nomatch z⟩, hj.mono (by omega)⟩
    · walk_at "go"
      exact ⟨.clrC, _, rfl, ⟨trivial, fun t z => nomatch z⟩, hj.mono (by omega)⟩
  walk_at "go"
  refine (drawS_spec hj (by omega) (by omega) (by omega)).mono ?_
  rintro _ ⟨r2, j_r2, rfl, r20, r21, hj⟩
  walk_at "go"
  first | refine sel1 (by omega) (by omega) ?_ | refine sel2 (by omega) (by omega) ?_ | refine sel3 (by omega) (by omega) ?_ | refine sel4 (by omega) (by omega) ?_ | refine sel5 (by omega) (by omega) ?_ | refine sel6 (by omega) (by omega) ?_ | refine sel7 (by omega) (by omega) ?_ | refine sel8 (by omega) (by omega) ?_
  intro U hs_U
  have Ul : 1 ≤ U := by omega
  have Uh : U ≤ T := by omega
  clear hs_U
  walk_at "go"
  refine (drawS_spec hj (by omega) (by omega) (by omega)).mono ?_
  rintro _ ⟨r3, j_r3, rfl, r30, r31, hj⟩
  walk_at "go"
  refine (drawS_spec hj (by omega) (by omega) (by omega)).mono ?_
  rintro _ ⟨r4, j_r4, rfl, r40, r41, hj⟩
  walk_at "go"
  refine sel3 (by omega) (by omega) ?_
  intro S hS
  walk_at "go"
  have ht : (1 + r3) * S ≠ 0 ∧ -(10 ^ 40) < (1 + r3) * S ∧ (1 + r3) * S ≤ T := by
    rcases hS with rfl | rfl | rfl <;> omega
  generalize (1 + r3) * S = t at *
  walk_at "go"
  exact ⟨.turnT t, _, rfl, ⟨⟨ht.1, by omega, by omega⟩, fun t' z => by cases z; omega⟩, hj.mono (by omega)⟩
theorem nix_bools {l : List Bool} : Nix 1 (l.length * 262 + 3) (.list (l.map PyData.bool)) := by
  have := nix_list (k := 0) (n := 260) (ds := l.map PyData.bool) fun d hd => by
    obtain ⟨b, _, rfl⟩ := List.mem_map.mp hd
    exact (nic_bool b).nix
  rwa [List.length_map] at this
theorem hundred45 {m : Nat} {j : List PyData} {w s r : Int} (hj : Jar m j) (hm : m ≤ 10 ^ 11) (h : Good w s r) :
    Ev (m_hundred_right [.bx .l j, .im (Mc w s r)]) fun y => ∃ j', y = (.im (.bool true), [.bx .l j', .im (Mc w s r)]) ∧ Jar (m + 10000) j' := by
  have e1 := initO h
  have nB := fun l => nix_bools (l := l)
  unfold m_hundred_right
  unfold OB Ob at e1
  walk_at "go"
  rw [e1]
  walk_at "go"
  walk_at "go"
  refine ev_lc0 (fun k acc δ => ∃ ts j' q4, acc = ts.map opD ∧ δ = [.bx .l j', .im (Mc w s r), .no, .no, q4, .no, .no, .no, .no, .no, .no] ∧ OkOps w s ts ∧ (∀ t, .turnT t ∈ ts → t ≤ 99) ∧ ts.length = k ∧ Jar (m + 20 * k) j') ⟨[], _, _, rfl, rfl, (fun o ho => nomatch ho), (fun t ht => nomatch ht), rfl, hj⟩ (by rw [range_len]; omega) (fun k d acc δ hd h' => ?_) fun acc δ h' => ?_
  · obtain ⟨ts, j1, q4, rfl, rfl, hk, hb, hl, hj⟩ := h'
    obtain ⟨hi, rfl⟩ := range_get hd
    walk_at "go"
    refine (next45_spec hj (by omega) h (by omega) (by omega)).mono ?_
    rintro _ ⟨o, j2, rfl, ⟨ho, ht⟩, hj⟩
    walk_at "go"
    walk_at "go"
    refine ⟨ts ++ [o], j2, _, by rw [List.map_append]; rfl, rfl, hk.snoc ho, fun t hm => ?_, by simp [hl], hj.mono (by omega)⟩
    rcases List.mem_append.mp hm with hm | hm
    · exact hb t hm
    · exact ht t (List.mem_singleton.mp hm).symm
  · obtain ⟨ts, j1, q4, rfl, rfl, hk, hb, hl, hj⟩ := h'
    rw [range_len] at hl hj
    walk_at "go"
    refine ev_lc0 (fun k acc δ => acc = [] ∧ ∃ q5, δ = [.bx .l j1, .im (Mc w s r), OB w s r (ts.take k), .im (.list (ts.map opD)), .no, q5, .no, .no, .no, .no, .no]) ⟨rfl, _, rfl⟩ (by rw [List.length_map]; omega) (fun k d acc δ hd h' => ?_) fun acc δ h' => ?_
    · obtain ⟨rfl, q5, rfl⟩ := h'
      rw [List.getElem?_map] at hd
      obtain ⟨o, hx, rfl⟩ := Option.map_eq_some_iff.mp hd
      have ec := call44_ok (os := ts.take k) (o := o) h (by rw [List.length_take]; omega) (fun o ho => hk o (List.mem_of_mem_take ho)) (hk o (List.mem_of_getElem? hx))
      rw [take_snoc hx]
      unfold OB Ob at *
      walk_at "go"
      rw [ec]
      walk_at "go"
      walk_at "go"
      first | exact ⟨_, rfl⟩ | exact ⟨rfl, _, rfl⟩
    · obtain ⟨rfl, q5, rfl⟩ := h'
      rw [List.length_map, List.take_length]
      have ef := forkO h ts
      have hlm : (ts.map opD).length = 100 := by rw [List.length_map, hl]
      unfold OB Ob at ef ⊢
      walk_at "go"
      rw [ef]
      walk_at "go"
      walk_at "go"
      refine (drawS_spec hj (by omega) (by omega) (by omega)).mono ?_
      rintro _ ⟨r1, j_r1, rfl, r10, r11, hj⟩
      walk_at "go"
      walk_at "go"
      refine ev_loop0 (fun k δ => ∃ q5 q7 q8 q9 j2, δ = [.bx .l j2, .im (Mc w s r), OB w s r ts, .im (.list (ts.map opD)), .no, q5, OB w s r ts, q7, q8, q9, .no] ∧ (q5 = .no ∨ ∃ d, q5 = .im d) ∧ (q8 = .no ∨ ∃ d, q8 = .im d ∨ ∃ ds, q8 = .bx .l ds) ∧ Jar (m + 2100) j2) ⟨_, _, _, _, _, rfl, .inl rfl, .inl rfl, hj.mono (by omega)⟩ (fun k d δ hd h' => ?_) fun δ h' => ?_
      · obtain ⟨q5, q7, q8, q9, j2, rfl, h5, h8, hj⟩ := h'
        have hd' : d = .none ∨ ∃ i : Int, d = .int i ∧ 0 ≤ i ∧ i < 100 := by
          match k, hd with
          | 0, hd => cases hd; exact .inl rfl
          | 1, hd => cases hd; exact .inr ⟨0, rfl, by omega, by omega⟩
          | 2, hd => cases hd; exact .inr ⟨r1, rfl, by omega, by omega⟩
          | k + 3, hd => simp at hd
        clear hd
        unfold OB Ob at *
        rcases hd' with rfl | ⟨i, rfl, i0, i1⟩
        · walk_at "go"
          rw [e1]
          walk_at "go"
          walk_at "go"
          have hu := hk
          have eA := eqO_ok h h (os := ts) (os' := ts) (by omega) (by omega) true (by simp)
          have eB := eA
          refine gd_mk (by rcases h5 with rfl | ⟨d5, rfl⟩ <;> rfl) ?_
          refine ev_lc0 (fun k acc δ => acc = [] ∧ ∃ q5, δ = [.bx .l j2, .im (Mc w s r), OB w s r ts, .im (.list (ts.map opD)), .no, q5, OB w s r ts, .im .none, .im (.list (ts.map opD)), OB w s r (ts.take k), .no]) ⟨rfl, _, rfl⟩ (by rw [List.length_map]; omega) (fun k d acc δ hd h' => ?_) fun acc δ h' => ?_
          · obtain ⟨rfl, q5, rfl⟩ := h'
            rw [List.getElem?_map] at hd
            obtain ⟨o, hx, rfl⟩ := Option.map_eq_some_iff.mp hd
            have ec := call44_ok (os := ts.take k) (o := o) h (by rw [List.length_take]; omega) (fun o ho => hu o (List.mem_of_mem_take ho)) (hu o (List.mem_of_getElem? hx))
            rw [take_snoc hx]
            unfold OB Ob at *
            walk_at "go"
            rw [ec]
            walk_at "go"
            walk_at "go"
            first | exact ⟨_, rfl⟩ | exact ⟨rfl, _, rfl⟩
          · obtain ⟨rfl, q5, rfl⟩ := h'
            rw [List.length_map, List.take_length]
            unfold OB Ob at *
            walk_at "go"
            refine ev_eqNN rfl rfl eA ?_
            walk_at "go"
            refine ev_eqNN rfl rfl eB ?_
            walk_at "go"
            refine ev_reprX (nB [true, true]) (by omega) (by decide) ?_
            walk_at "go"
            refine ev_reprX (nB [true, true]) (by omega) (by decide) ?_
            walk_at "go"
            repeat ((first | (refine br_pos ?bh ?_; (case bh => first | omega | (simp; omega) | (simp; done))) | (refine br_neg ?bh ?_; (case bh => first | omega | (simp; omega) | (simp; done))) | intro _) <;> walk_at "go")
            exact ⟨_, _, _, _, _, rfl, h5, .inr ⟨_, .inl rfl⟩, hj⟩
        · walk_at "go"
          rw [e1]
          walk_at "go"
          walk_at "go"
          have hix := ixin ts.length (i := i) i0 (by omega)
          have hne : ts ≠ ts.set i.toNat (.turnT (100 + i)) := fun z => by
            have h1 : (ts.set i.toNat (.turnT (100 + i)))[i.toNat]? = some (.turnT (100 + i)) := List.getElem?_set_self (by omega)
            rw [← z] at h1
            have := hb _ (List.mem_of_getElem? h1)
            omega
          have hu : OkOps w s (ts.set i.toNat (.turnT (100 + i))) := fun o ho => by
            rcases List.mem_or_eq_of_mem_set ho with z | z
            · exact hk o z
            · rw [z]; exact ⟨by omega, by omega, by omega⟩
          have hul : (ts.set i.toNat (.turnT (100 + i))).length = 100 := by rw [List.length_set, hl]
          have eA := eqO_ok h h (os := ts) (os' := ts.set i.toNat (.turnT (100 + i))) (by omega) (by omega) false (by simp only [Bool.false_eq_true, false_iff]; exact fun z => hne z.2)
          have eB := eqO_ok h h (os := ts.set i.toNat (.turnT (100 + i))) (os' := ts) (by omega) (by omega) false (by simp only [Bool.false_eq_true, false_iff]; exact fun z => hne z.2.symm)
          have hs : (ts.map opD).set i.toNat (.tuple [.str "turn", .int (100 + i)]) = (ts.set i.toNat (.turnT (100 + i))).map opD := by rw [List.map_set]; rfl
          rw [hix]
          walk_at "go"
          rw [hs]
          refine gd_mk (by rcases h5 with rfl | ⟨d5, rfl⟩ <;> rfl) ?_
          refine ev_lc0 (fun k acc δ => acc = [] ∧ ∃ q5, δ = [.bx .l j2, .im (Mc w s r), OB w s r ts, .im (.list (ts.map opD)), .no, q5, OB w s r ts, .im (.int i), .im (.list ((ts.set i.toNat (.turnT (100 + i))).map opD)), OB w s r ((ts.set i.toNat (.turnT (100 + i))).take k), .no]) ⟨rfl, _, rfl⟩ (by rw [List.length_map]; omega) (fun k d acc δ hd h' => ?_) fun acc δ h' => ?_
          · obtain ⟨rfl, q5, rfl⟩ := h'
            rw [List.getElem?_map] at hd
            obtain ⟨o, hx, rfl⟩ := Option.map_eq_some_iff.mp hd
            have ec := call44_ok (os := (ts.set i.toNat (.turnT (100 + i))).take k) (o := o) h (by rw [List.length_take]; omega) (fun o ho => hu o (List.mem_of_mem_take ho)) (hu o (List.mem_of_getElem? hx))
            rw [take_snoc hx]
            unfold OB Ob at *
            walk_at "go"
            rw [ec]
            walk_at "go"
            walk_at "go"
            first | exact ⟨_, rfl⟩ | exact ⟨rfl, _, rfl⟩
          · obtain ⟨rfl, q5, rfl⟩ := h'
            rw [List.length_map, List.take_length]
            unfold OB Ob at *
            walk_at "go"
            refine ev_eqNN rfl rfl eA ?_
            walk_at "go"
            refine ev_eqNN rfl rfl eB ?_
            walk_at "go"
            refine ev_reprX (nB [false, false]) (by omega) (by decide) ?_
            walk_at "go"
            refine ev_reprX (nB [false, false]) (by omega) (by decide) ?_
            walk_at "go"
            repeat ((first | (refine br_pos ?bh ?_; (case bh => first | omega | (simp; omega) | (simp; done))) | (refine br_neg ?bh ?_; (case bh => first | omega | (simp; omega) | (simp; done))) | intro _) <;> walk_at "go")
            exact ⟨_, _, _, _, _, rfl, h5, .inr ⟨_, .inl rfl⟩, hj⟩
      · obtain ⟨q5, q7, q8, q9, j2, rfl, h5, h8, hj⟩ := h'
        have hL := longer45 hj (by omega) h hl hk
        unfold OB Ob at *
        walk_at "go"
        refine hL.mono fun y hy => ?_
        obtain ⟨j3, rfl, hj⟩ := hy
        walk_at "go"
        have tk : ∀ i : Nat, i < 100 → m_o_undo [OB w s r (ts.take (i + 1))] = some (.im .none, [OB w s r (ts.take i)]) := fun i hi => by
          have := undoO h (os := ts.take (i + 1)) (fun z => by have := congrArg List.length z; rw [List.length_take, List.length_nil] at this; omega) (by rw [List.length_take]; omega)
          rw [this]
          rw [show (ts.take (i + 1)).dropLast = ts.take i from by rw [List.dropLast_eq_take, List.length_take, List.take_take]; congr 1; omega]
        refine ev_loop0 (fun k δ => k ≤ 100 ∧ ∃ q10, δ = [.bx .l j3, .im (Mc w s r), OB w s r (ts.take (100 - k)), .im (.list (ts.map opD)), .no, q5, OB w s r ts, q7, q8, q9, q10]) ⟨by omega, _, by rw [Nat.sub_zero, List.take_of_length_le (by omega)]; rfl⟩ (fun k d δ hd h' => ?_) fun δ h' => ?_
        · obtain ⟨hk9, q10, rfl⟩ := h'
          obtain ⟨hi, rfl⟩ := range_get hd
          have eu := tk (100 - (k + 1)) (by omega)
          rw [show 100 - (k + 1) + 1 = 100 - k by omega] at eu
          have e8 := lenO (w := w) (s := s) (r := r) (ts.take (100 - (k + 1)))
          have hk3 : OkOps w s (ts.take (100 - (k + 1))) := fun o ho => hk o (List.mem_of_mem_take ho)
          have et1 := told44_ok (os := ts.take (100 - (k + 1))) h (by rw [List.length_take]; omega) hk3
          have ed1 := due44_ok (os := ts.take (100 - (k + 1))) h (by rw [List.length_take]; omega) hk3
          rw [List.length_take, hl, show min (100 - (k + 1)) 100 = 99 - k by omega] at e8
          have hc : cutD (ts.map opD) none (some (99 + (k : Int) * -1)) = (ts.take (100 - (k + 1))).map opD := by
            rw [show (99 + (k : Int) * -1) = ((100 - (k + 1) : Nat) : Int) by omega, List.map_take]
            exact cut_to45 _ _ (by rw [List.length_map]; omega)
          unfold OB Ob at *
          walk_at "go"
          rw [eu]
          walk_at "go"
          walk_at "go"
          rw [e8]
          walk_at "go"
          walk_at "go"
          repeat ((first | (refine br_pos ?bh ?_; (case bh => first | omega | (simp; omega) | (simp; done))) | (refine br_neg ?bh ?_; (case bh => first | omega | (simp; omega) | (simp; done))) | intro _) <;> walk_at "go")
          refine br_mk (fun h1 => ?_) fun h1 => ?_
          · walk_at "go"
            rw [et1]
            walk_at "go"
            walk_at "go"
            rw [hc]
            walk_at "go"
            rw [ed1]
            walk_at "go"
            walk_at "go"
            first | exact ⟨by omega, _, rfl⟩ | exact ⟨_, rfl⟩ | exact ⟨by omega, rfl⟩ | (refine fun z => ?_; exact ⟨by omega, _, rfl⟩)
          · walk_at "go"
            repeat ((first | (refine br_pos ?bh ?_; (case bh => first | omega | (simp; omega) | (simp; done))) | (refine br_neg ?bh ?_; (case bh => first | omega | (simp; omega) | (simp; done))) | intro _) <;> walk_at "go")
            first | exact ⟨by omega, _, rfl⟩ | exact ⟨_, rfl⟩ | exact ⟨by omega, rfl⟩ | (refine fun z => ?_; exact ⟨by omega, _, rfl⟩)
        · obtain ⟨hk9, q10, rfl⟩ := h'
          rw [range_len]
          have eA := eqO_ok h h (os := []) (os' := []) (by simp) (by simp) true (by simp)
          have eB := eqO_ok h h (os := []) (os' := ts) (by simp) (by omega) false (by simp only [Bool.false_eq_true, false_iff]; exact fun z => by rw [← z.2] at hl; simp at hl)
          have et := told44_ok h (by omega) hk
          have ed := due44_ok h (by omega) hk
          rw [Nat.sub_self, List.take_zero]
          have ef := initO h
          have hc : cutD (ts.map opD) none (some 60) = (ts.take 60).map opD := by
            rw [List.map_take]
            exact cut_to45 _ 60 (by rw [List.length_map]; omega)
          unfold OB Ob at *
          walk_at "go"
          refine ev_neNF (ds2 := [Mc w s r, .list (rowsO w s r (st00 w s) [])]) rfl ?_ eA ?_
          · walk_at "go"
            rw [ef]
            walk_at "go"
          walk_at "go"
          refine ev_eqNN rfl rfl eB ?_
          walk_at "go"
          rw [et]
          walk_at "go"
          rw [ed]
          walk_at "go"
          walk_at "go"
          refine ev_loop0 (fun k δ => k ≤ 40 ∧ ∃ q10, δ = [.bx .l j3, .im (Mc w s r), OB w s r [], .im (.list (ts.map opD)), .no, q5, OB w s r (ts.take (100 - k)), q7, q8, q9, q10]) ⟨by omega, _, by rw [Nat.sub_zero, List.take_of_length_le (by omega)]; rfl⟩ (fun k d δ hd h' => ?_) fun δ h' => ?_
          · obtain ⟨hk9, q10, rfl⟩ := h'
            obtain ⟨hi, rfl⟩ := range_get hd
            have eu := tk (100 - (k + 1)) (by omega)
            rw [show 100 - (k + 1) + 1 = 100 - k by omega] at eu
            have e8 := lenO (w := w) (s := s) (r := r) (ts.take (100 - (k + 1)))
            rw [List.length_take, hl, show min (100 - (k + 1)) 100 = 99 - k by omega] at e8
            unfold OB Ob at *
            walk_at "go"
            rw [eu]
            walk_at "go"
            walk_at "go"
            rw [e8]
            walk_at "go"
            walk_at "go"
            repeat ((first | (refine br_pos ?bh ?_; (case bh => first | omega | (simp; omega) | (simp; done))) | (refine br_neg ?bh ?_; (case bh => first | omega | (simp; omega) | (simp; done))) | intro _) <;> walk_at "go")
            first | exact ⟨_, rfl⟩ | exact ⟨by omega, _, rfl⟩
          · obtain ⟨hk9, q10, rfl⟩ := h'
            rw [range_len]
            have hk3 : OkOps w s (ts.take 60) := fun o ho => hk o (List.mem_of_mem_take ho)
            have et1 := told44_ok (os := ts.take 60) h (by rw [List.length_take]; omega) hk3
            have ed1 := due44_ok (os := ts.take 60) h (by rw [List.length_take]; omega) hk3
            unfold OB Ob at *
            walk_at "go"
            rw [et1]
            walk_at "go"
            walk_at "go"
            rw [hc]
            walk_at "go"
            rw [ed1]
            walk_at "go"
            walk_at "go"
            exact ⟨_, rfl, hj.mono (by omega)⟩
end
section
local macro_rules | `(tactic| walk_at "kn") => `(tactic| simp (discharger := walk_at "dis") only [macS_mo, ev_dFldR, ev_dMethR, ev_dPropR, ev_dIsR, ev_dLenR, ev_dDIn, ev_dDGet, keyOf_str, imS_im, ev_sForApp, owQ_ow, ev_lenOS, ev_dLenO, wq01, wq02, wq03, wq10, wq12, wq13, wq20, wq21, wq23, wq30, wq31, wq32, wq40, wq41, wq42, wq43])
theorem law_true (ns : List Int) (h : ns.length ≤ 63) : ∃ as', m_law [.fz (ns.map PyData.int)] = some (.im (.bool true), as') := by
  have g4 : Good 4 1 1 := ⟨by omega, by omega, by omega, by omega, by omega, by omega⟩
  have e0 := initO g4
  have k0 : OkOps 4 1 [] := fun o ho => nomatch ho
  have k1 : OkOps 4 1 [.setA 7] := k0.snoc (o := .setA 7) ⟨by omega, by decide⟩
  have e1 := setO (x := 7) (os := []) g4 (by simp) ⟨by omega, by decide⟩
  have e2 := turnO (x := 15) (os := [.setA 7]) g4 (by simp) k1 ⟨by omega, by omega, by omega⟩
  have e3 := clrRO g4 (os := [.setA 7, .turnT 15]) (by simp)
  have e4 := clrCO g4 (os := [.setA 7, .turnT 15, .clrR]) (by simp)
  have e5 := undoO g4 (os := [.setA 7, .turnT 15, .clrR, .clrC]) (by simp) (by simp)
  have e6 := undoO g4 (os := [.setA 7, .turnT 15, .clrR]) (by simp) (by simp)
  have e7 := displayO g4 [.setA 7, .turnT 15]
  have e8 := counterO g4 [.setA 7, .turnT 15]
  have e9 := undoO g4 (os := [.setA 7, .turnT 15]) (by simp) (by simp)
  have e10 := bellsO g4 [.setA 7]
  rw [show (stO' 4 1 1 [.setA 7, .turnT 15]).v = 5 by decide +kernel] at e7
  rw [show (stO' 4 1 1 [.setA 7, .turnT 15]).ws = [5, 0, 0, 0] by decide +kernel] at e8
  rw [show (stO' 4 1 1 [.setA 7]).b = 0 by decide +kernel] at e10
  rw [List.nil_append] at e1
  rw [show [Op.setA 7] ++ [Op.turnT 15] = [.setA 7, .turnT 15] from rfl] at e2
  rw [show [Op.setA 7, Op.turnT 15] ++ [Op.clrR] = [.setA 7, .turnT 15, .clrR] from rfl] at e3
  rw [show [Op.setA 7, Op.turnT 15, .clrR] ++ [Op.clrC] = [.setA 7, .turnT 15, .clrR, .clrC] from rfl] at e4
  rw [show [Op.setA 7, .turnT 15, .clrR, .clrC].dropLast = [.setA 7, .turnT 15, .clrR] from rfl] at e5
  rw [show [Op.setA 7, .turnT 15, .clrR].dropLast = [.setA 7, .turnT 15] from rfl] at e6
  rw [show [Op.setA 7, .turnT 15].dropLast = [.setA 7] from rfl] at e9
  have key : Ev (m_law [.fz (ns.map PyData.int)]) fun y => ∃ as', y = (.im (.bool true), as') := by
    unfold m_law
    walk_at "go"
    refine (stock_spec h).mono ?_
    rintro _ ⟨j, rfl, hj⟩
    walk_at "go"
    refine ev_loop0 (fun k δ => ∃ j q2, δ = [.fz (ns.map PyData.int), .bx .l j, q2, .no, .no] ∧ Jar (20000 * k) j) ⟨_, _, rfl, hj⟩ (fun i d δ hd h' => ?_) fun δ h' => ?_
    · obtain ⟨j, q2, rfl, hj⟩ := h'
      obtain ⟨hi, rfl⟩ := range_get hd
      have hi : i < 4 := by omega
      clear hd
      walk_at "go"
      refine (drawS_spec hj (by omega) (by omega) (by omega)).mono ?_
      rintro _ ⟨r1, j_r1, rfl, r10, r11, hj⟩
      walk_at "go"
      first | refine sel1 (by omega) (by omega) ?_ | refine sel2 (by omega) (by omega) ?_ | refine sel3 (by omega) (by omega) ?_ | refine sel4 (by omega) (by omega) ?_ | refine sel5 (by omega) (by omega) ?_ | refine sel6 (by omega) (by omega) ?_ | refine sel7 (by omega) (by omega) ?_ | refine sel8 (by omega) (by omega) ?_
      intro W hs_W
      have Wl : 1 ≤ W := by omega
      have Wh : W ≤ 40 := by omega
      clear hs_W
      walk_at "go"
      refine (kindS_spec hj (by omega) (by omega) (by omega)).mono ?_
      rintro _ ⟨w, s, r, j2, rfl, hg, wm, hj⟩
      walk_at "go"
      refine (drawS_spec hj (by omega) (by omega) (by omega)).mono ?_
      rintro _ ⟨r2, j_r2, rfl, r20, r21, hj⟩
      walk_at "go"
      refine (right45 hj (by omega) hg (by omega) (by omega)).mono ?_
      rintro _ ⟨j3, rfl, hj⟩
      walk_at "go"
      exact ⟨_, _, rfl, hj.mono (by omega)⟩
    · obtain ⟨j, q2, rfl, hj⟩ := h'
      rw [range_len] at hj
      walk_at "go"
      refine (kindS_spec hj (by omega) (by omega) (by omega)).mono ?_
      rintro _ ⟨w, s, r, j2, rfl, hg, wm, hj⟩
      walk_at "go"
      refine (hundred45 hj (by omega) hg).mono ?_
      rintro _ ⟨j4, rfl, hj⟩
      walk_at "go"
      unfold Mc at e0
      unfold OB Ob at *
      rw [e0]
      walk_at "go"
      rw [e1]
      walk_at "go"
      rw [e2]
      walk_at "go"
      rw [e3]
      walk_at "go"
      rw [e4]
      walk_at "go"
      rw [e5]
      walk_at "go"
      rw [e6]
      walk_at "go"
      rw [e7]
      walk_at "go"
      rw [e8]
      walk_at "go"
      rw [e9]
      walk_at "go"
      rw [e10]
      walk_at "go"
      have hn : Nic 2 107193 (.list [.none, .none, .none, .none, .none, .none, .int 5, .list [.int 5, .int 0, .int 0, .int 0], .none, .int 0]) := by
        have l1 := nic_list (n := 260) (nic_ints (ns := [5, 0, 0, 0]) (by decide +kernel))
        have i1 : ∀ n : Int, -(10 ^ 250) < n → n < 10 ^ 250 → Nic 1 1051 (.int n) := fun n h1 h2 => (nic_int n h1 h2).mono (by omega) (by omega)
        have n1 : Nic 1 1051 .none := nic_none.mono (by omega) (by omega)
        exact (nic_list (n := 1051) (allc n1 (allc n1 (allc n1 (allc n1 (allc n1 (allc n1 (allc (i1 _ (by omega) (by omega)) (allc l1 (allc n1 (allc (i1 _ (by omega) (by omega)) alln))))))))))).mono (by omega) (by decide)
      refine ev_repr (hn) (by omega) (by omega) ?_
      walk_at "go"
      refine ev_repr (hn) (by omega) (by omega) ?_
      walk_at "go"
      exact ⟨_, rfl⟩
  obtain ⟨y, e, as', rfl⟩ := key
  exact ⟨as', e⟩
end
end CK
namespace CK
open PySem PySem.Spec PyProof.Rows L2
theorem all_mk {l : PySem.W.OpenLaw} {w : World} {K : PySem.W.Frag} {h : Heap} {mg : Str → Option Value} {fa : Addr} (X : K.In h) (G : h.Ns mainGlobals mg) (hfa : mg "law" = some (.ref fa))
    {C : Addr} (x_C : PySem.W.nsIn K mainGlobals "CrankMachine" = some (some (.ref C))) (x_pg : PySem.W.plainGet K C Str.empty = true) (x_hd : PySem.W.hasDictIn K C = true) (x_po : PySem.W.plainOver K C = true) (x_sa : PySem.W.findIn K (.ref C) "__setattr__" = some (some (.builtin "object.__setattr__"))) (x_mk : PySem.W.makesIn K C = true) (x_kp : PySem.W.keepIn K (.ref C) = true)
    (x__ne : PySem.W.findIn K (.ref C) "__ne__" = some (some (.builtin "object.__ne__"))) (x__a : PySem.W.findIn K (.ref C) "__class__" = some (some (.builtin "object.__class__"))) (x__n : PySem.W.specialIn K (.builtin "object.__class__") "__get__" = some (some (.builtin "getset_descriptor.__get__"))) (x__t : PySem.W.takesIn K (.builtin "object.__class__") = some true) (x__m : PySem.W.mroIn K C (.type "object") = some true) (x__y : PySem.W.typeIn K (.ref C) = some (.type "type"))
    (x_kept_calls : PySem.W.findIn K (.ref C) "kept_calls" = some none)
    (x_kept_machine : PySem.W.findIn K (.ref C) "kept_machine" = some none)
    {f0 : Addr} {od0 an0 : Option Addr} {sl0 : Array (Option Value)} {oc0 kV0 dc0 pm0 cd0 ct0 : Value} (a0 : PySem.W.nsIn K mainGlobals "_law_stock" = some (some (.ref f0))) (l0 : K.lookup f0 = some ⟨oc0, od0, .func (PySem.W.fnOf "_law_stock" "_law_stock" (defArgs s_stock) (defBody s_stock) (defScope s_stock) .none kV0 dc0 pm0 an0 cd0 ct0), sl0⟩) (c0 : PySem.W.codeIn K cd0 "_law_stock" = true) (k0 : PySem.W.keepIn K (.ref f0) = true)
    {f1 : Addr} {od1 an1 : Option Addr} {sl1 : Array (Option Value)} {oc1 kV1 dc1 pm1 cd1 ct1 : Value} (a1 : PySem.W.nsIn K mainGlobals "is_integer" = some (some (.ref f1))) (l1 : K.lookup f1 = some ⟨oc1, od1, .func (PySem.W.fnOf "is_integer" "is_integer" (defArgs s_is_integer) (defBody s_is_integer) (defScope s_is_integer) .none kV1 dc1 pm1 an1 cd1 ct1), sl1⟩) (c1 : PySem.W.codeIn K cd1 "is_integer" = true) (k1 : PySem.W.keepIn K (.ref f1) = true)
    {f2 : Addr} {od2 an2 : Option Addr} {sl2 : Array (Option Value)} {oc2 kV2 dc2 pm2 cd2 ct2 : Value} (a2 : PySem.W.nsIn K mainGlobals "is_between" = some (some (.ref f2))) (l2 : K.lookup f2 = some ⟨oc2, od2, .func (PySem.W.fnOf "is_between" "is_between" (defArgs s_is_between) (defBody s_is_between) (defScope s_is_between) .none kV2 dc2 pm2 an2 cd2 ct2), sl2⟩) (c2 : PySem.W.codeIn K cd2 "is_between" = true) (k2 : PySem.W.keepIn K (.ref f2) = true)
    {f3 : Addr} {od3 an3 : Option Addr} {sl3 : Array (Option Value)} {oc3 kV3 dc3 pm3 cd3 ct3 : Value} (a3 : PySem.W.nsIn K mainGlobals "machine_fault" = some (some (.ref f3))) (l3 : K.lookup f3 = some ⟨oc3, od3, .func (PySem.W.fnOf "machine_fault" "machine_fault" (defArgs s_machine_fault) (defBody s_machine_fault) (defScope s_machine_fault) .none kV3 dc3 pm3 an3 cd3 ct3), sl3⟩) (c3 : PySem.W.codeIn K cd3 "machine_fault" = true) (k3 : PySem.W.keepIn K (.ref f3) = true)
    {f4 : Addr} {od4 an4 : Option Addr} {sl4 : Array (Option Value)} {oc4 kV4 dc4 pm4 cd4 ct4 : Value} (a4 : PySem.W.nsIn K mainGlobals "require_machine" = some (some (.ref f4))) (l4 : K.lookup f4 = some ⟨oc4, od4, .func (PySem.W.fnOf "require_machine" "require_machine" (defArgs s_require_machine) (defBody s_require_machine) (defScope s_require_machine) .none kV4 dc4 pm4 an4 cd4 ct4), sl4⟩) (c4 : PySem.W.codeIn K cd4 "require_machine" = true) (k4 : PySem.W.keepIn K (.ref f4) = true)
    {f5 : Addr} {od5 an5 : Option Addr} {sl5 : Array (Option Value)} {oc5 kV5 dc5 pm5 cd5 ct5 : Value} (a5 : PySem.W.findIn K (.ref C) "__init__" = some (some (.ref f5))) (l5 : K.lookup f5 = some ⟨oc5, od5, .func (PySem.W.fnOf "__init__" "CrankMachine.__init__" (defArgs s_o_init) (defBody s_o_init) (defScope s_o_init) .none kV5 dc5 pm5 an5 cd5 ct5), sl5⟩) (c5 : PySem.W.codeIn K cd5 "CrankMachine.__init__" = true) (k5 : PySem.W.keepIn K (.ref f5) = true) (i5 : PySem.W.isFn K (.ref f5) = true)
    {f6 : Addr} {od6 an6 : Option Addr} {sl6 : Array (Option Value)} {oc6 kV6 dc6 pm6 cd6 ct6 : Value} (a6 : PySem.W.findIn K (.ref C) "fork" = some (some (.ref f6))) (l6 : K.lookup f6 = some ⟨oc6, od6, .func (PySem.W.fnOf "fork" "CrankMachine.fork" (defArgs s_o_fork) (defBody s_o_fork) (defScope s_o_fork) .none kV6 dc6 pm6 an6 cd6 ct6), sl6⟩) (c6 : PySem.W.codeIn K cd6 "CrankMachine.fork" = true) (k6 : PySem.W.keepIn K (.ref f6) = true) (i6 : PySem.W.isFn K (.ref f6) = true)
    {p7 : Addr} {rest7 : List Value} {f7 : Addr} {od7 an7 : Option Addr} {sl7 : Array (Option Value)} {oc7 kV7 dc7 pm7 cd7 ct7 : Value} (a7 : PySem.W.findIn K (.ref C) "log" = some (some (.ref p7))) (g7 : PySem.W.specialIn K (.ref p7) "__get__" = some (some (.builtin "property.__get__"))) (t7 : PySem.W.takesIn K (.ref p7) = some true) (r7 : PySem.W.recIn K p7 "property" = some (.ref f7 :: rest7)) (l7 : K.lookup f7 = some ⟨oc7, od7, .func (PySem.W.fnOf "log" "CrankMachine.log" (defArgs s_o_log) (defBody s_o_log) (defScope s_o_log) .none kV7 dc7 pm7 an7 cd7 ct7), sl7⟩) (c7 : PySem.W.codeIn K cd7 "CrankMachine.log" = true) (k7 : PySem.W.keepIn K (.ref f7) = true)
    {f8 : Addr} {od8 an8 : Option Addr} {sl8 : Array (Option Value)} {oc8 kV8 dc8 pm8 cd8 ct8 : Value} (a8 : PySem.W.findIn K (.ref C) "__eq__" = some (some (.ref f8))) (l8 : K.lookup f8 = some ⟨oc8, od8, .func (PySem.W.fnOf "__eq__" "CrankMachine.__eq__" (defArgs s_o_eq) (defBody s_o_eq) (defScope s_o_eq) .none kV8 dc8 pm8 an8 cd8 ct8), sl8⟩) (c8 : PySem.W.codeIn K cd8 "CrankMachine.__eq__" = true) (k8 : PySem.W.keepIn K (.ref f8) = true) (i8 : PySem.W.isFn K (.ref f8) = true)
    {f9 : Addr} {od9 an9 : Option Addr} {sl9 : Array (Option Value)} {oc9 kV9 dc9 pm9 cd9 ct9 : Value} (a9 : PySem.W.nsIn K mainGlobals "_law_draw" = some (some (.ref f9))) (l9 : K.lookup f9 = some ⟨oc9, od9, .func (PySem.W.fnOf "_law_draw" "_law_draw" (defArgs s_draw) (defBody s_draw) (defScope s_draw) .none kV9 dc9 pm9 an9 cd9 ct9), sl9⟩) (c9 : PySem.W.codeIn K cd9 "_law_draw" = true) (k9 : PySem.W.keepIn K (.ref f9) = true)
    {f10 : Addr} {od10 an10 : Option Addr} {sl10 : Array (Option Value)} {oc10 kV10 dc10 pm10 cd10 ct10 : Value} (a10 : PySem.W.findIn K (.ref C) "__len__" = some (some (.ref f10))) (l10 : K.lookup f10 = some ⟨oc10, od10, .func (PySem.W.fnOf "__len__" "CrankMachine.__len__" (defArgs s_o_len) (defBody s_o_len) (defScope s_o_len) .none kV10 dc10 pm10 an10 cd10 ct10), sl10⟩) (c10 : PySem.W.codeIn K cd10 "CrankMachine.__len__" = true) (k10 : PySem.W.keepIn K (.ref f10) = true) (i10 : PySem.W.isFn K (.ref f10) = true)
    {f11 : Addr} {od11 an11 : Option Addr} {sl11 : Array (Option Value)} {oc11 kV11 dc11 pm11 cd11 ct11 : Value} (a11 : PySem.W.nsIn K mainGlobals "_law_tens" = some (some (.ref f11))) (l11 : K.lookup f11 = some ⟨oc11, od11, .func (PySem.W.fnOf "_law_tens" "_law_tens" (defArgs s_tens) (defBody s_tens) (defScope s_tens) .none kV11 dc11 pm11 an11 cd11 ct11), sl11⟩) (c11 : PySem.W.codeIn K cd11 "_law_tens" = true) (k11 : PySem.W.keepIn K (.ref f11) = true)
    {f12 : Addr} {od12 an12 : Option Addr} {sl12 : Array (Option Value)} {oc12 kV12 dc12 pm12 cd12 ct12 : Value} (a12 : PySem.W.nsIn K mainGlobals "_law_figure" = some (some (.ref f12))) (l12 : K.lookup f12 = some ⟨oc12, od12, .func (PySem.W.fnOf "_law_figure" "_law_figure" (defArgs s_figure) (defBody s_figure) (defScope s_figure) .none kV12 dc12 pm12 an12 cd12 ct12), sl12⟩) (c12 : PySem.W.codeIn K cd12 "_law_figure" = true) (k12 : PySem.W.keepIn K (.ref f12) = true)
    {f13 : Addr} {od13 an13 : Option Addr} {sl13 : Array (Option Value)} {oc13 kV13 dc13 pm13 cd13 ct13 : Value} (a13 : PySem.W.nsIn K mainGlobals "_law_next" = some (some (.ref f13))) (l13 : K.lookup f13 = some ⟨oc13, od13, .func (PySem.W.fnOf "_law_next" "_law_next" (defArgs s_next) (defBody s_next) (defScope s_next) .none kV13 dc13 pm13 an13 cd13 ct13), sl13⟩) (c13 : PySem.W.codeIn K cd13 "_law_next" = true) (k13 : PySem.W.keepIn K (.ref f13) = true)
    {f14 : Addr} {od14 an14 : Option Addr} {sl14 : Array (Option Value)} {oc14 kV14 dc14 pm14 cd14 ct14 : Value} (a14 : PySem.W.nsIn K mainGlobals "places_of" = some (some (.ref f14))) (l14 : K.lookup f14 = some ⟨oc14, od14, .func (PySem.W.fnOf "places_of" "places_of" (defArgs s_places_of) (defBody s_places_of) (defScope s_places_of) .none kV14 dc14 pm14 an14 cd14 ct14), sl14⟩) (c14 : PySem.W.codeIn K cd14 "places_of" = true) (k14 : PySem.W.keepIn K (.ref f14) = true)
    {f15 : Addr} {od15 an15 : Option Addr} {sl15 : Array (Option Value)} {oc15 kV15 dc15 pm15 cd15 ct15 : Value} (a15 : PySem.W.findIn K (.ref C) "state_now" = some (some (.ref f15))) (l15 : K.lookup f15 = some ⟨oc15, od15, .func (PySem.W.fnOf "state_now" "CrankMachine.state_now" (defArgs s_o_state_now) (defBody s_o_state_now) (defScope s_o_state_now) .none kV15 dc15 pm15 an15 cd15 ct15), sl15⟩) (c15 : PySem.W.codeIn K cd15 "CrankMachine.state_now" = true) (k15 : PySem.W.keepIn K (.ref f15) = true) (i15 : PySem.W.isFn K (.ref f15) = true)
    {f16 : Addr} {od16 an16 : Option Addr} {sl16 : Array (Option Value)} {oc16 kV16 dc16 pm16 cd16 ct16 : Value} (a16 : PySem.W.findIn K (.ref C) "keep" = some (some (.ref f16))) (l16 : K.lookup f16 = some ⟨oc16, od16, .func (PySem.W.fnOf "keep" "CrankMachine.keep" (defArgs s_o_keep) (defBody s_o_keep) (defScope s_o_keep) .none kV16 dc16 pm16 an16 cd16 ct16), sl16⟩) (c16 : PySem.W.codeIn K cd16 "CrankMachine.keep" = true) (k16 : PySem.W.keepIn K (.ref f16) = true) (i16 : PySem.W.isFn K (.ref f16) = true)
    {f17 : Addr} {od17 an17 : Option Addr} {sl17 : Array (Option Value)} {oc17 kV17 dc17 pm17 cd17 ct17 : Value} (a17 : PySem.W.findIn K (.ref C) "clear_counter" = some (some (.ref f17))) (l17 : K.lookup f17 = some ⟨oc17, od17, .func (PySem.W.fnOf "clear_counter" "CrankMachine.clear_counter" (defArgs s_o_clear_counter) (defBody s_o_clear_counter) (defScope s_o_clear_counter) .none kV17 dc17 pm17 an17 cd17 ct17), sl17⟩) (c17 : PySem.W.codeIn K cd17 "CrankMachine.clear_counter" = true) (k17 : PySem.W.keepIn K (.ref f17) = true) (i17 : PySem.W.isFn K (.ref f17) = true)
    {f18 : Addr} {od18 an18 : Option Addr} {sl18 : Array (Option Value)} {oc18 kV18 dc18 pm18 cd18 ct18 : Value} (a18 : PySem.W.nsIn K mainGlobals "ten_power" = some (some (.ref f18))) (l18 : K.lookup f18 = some ⟨oc18, od18, .func (PySem.W.fnOf "ten_power" "ten_power" (defArgs s_ten_power) (defBody s_ten_power) (defScope s_ten_power) .none kV18 dc18 pm18 an18 cd18 ct18), sl18⟩) (c18 : PySem.W.codeIn K cd18 "ten_power" = true) (k18 : PySem.W.keepIn K (.ref f18) = true)
    {f19 : Addr} {od19 an19 : Option Addr} {sl19 : Array (Option Value)} {oc19 kV19 dc19 pm19 cd19 ct19 : Value} (a19 : PySem.W.nsIn K mainGlobals "require_setting" = some (some (.ref f19))) (l19 : K.lookup f19 = some ⟨oc19, od19, .func (PySem.W.fnOf "require_setting" "require_setting" (defArgs s_require_setting) (defBody s_require_setting) (defScope s_require_setting) .none kV19 dc19 pm19 an19 cd19 ct19), sl19⟩) (c19 : PySem.W.codeIn K cd19 "require_setting" = true) (k19 : PySem.W.keepIn K (.ref f19) = true)
    {f20 : Addr} {od20 an20 : Option Addr} {sl20 : Array (Option Value)} {oc20 kV20 dc20 pm20 cd20 ct20 : Value} (a20 : PySem.W.findIn K (.ref C) "set_to" = some (some (.ref f20))) (l20 : K.lookup f20 = some ⟨oc20, od20, .func (PySem.W.fnOf "set_to" "CrankMachine.set_to" (defArgs s_o_set_to) (defBody s_o_set_to) (defScope s_o_set_to) .none kV20 dc20 pm20 an20 cd20 ct20), sl20⟩) (c20 : PySem.W.codeIn K cd20 "CrankMachine.set_to" = true) (k20 : PySem.W.keepIn K (.ref f20) = true) (i20 : PySem.W.isFn K (.ref f20) = true)
    {f21 : Addr} {od21 an21 : Option Addr} {sl21 : Array (Option Value)} {oc21 kV21 dc21 pm21 cd21 ct21 : Value} (a21 : PySem.W.nsIn K mainGlobals "require_place" = some (some (.ref f21))) (l21 : K.lookup f21 = some ⟨oc21, od21, .func (PySem.W.fnOf "require_place" "require_place" (defArgs s_require_place) (defBody s_require_place) (defScope s_require_place) .none kV21 dc21 pm21 an21 cd21 ct21), sl21⟩) (c21 : PySem.W.codeIn K cd21 "require_place" = true) (k21 : PySem.W.keepIn K (.ref f21) = true)
    {f22 : Addr} {od22 an22 : Option Addr} {sl22 : Array (Option Value)} {oc22 kV22 dc22 pm22 cd22 ct22 : Value} (a22 : PySem.W.findIn K (.ref C) "shift_to" = some (some (.ref f22))) (l22 : K.lookup f22 = some ⟨oc22, od22, .func (PySem.W.fnOf "shift_to" "CrankMachine.shift_to" (defArgs s_o_shift_to) (defBody s_o_shift_to) (defScope s_o_shift_to) .none kV22 dc22 pm22 an22 cd22 ct22), sl22⟩) (c22 : PySem.W.codeIn K cd22 "CrankMachine.shift_to" = true) (k22 : PySem.W.keepIn K (.ref f22) = true) (i22 : PySem.W.isFn K (.ref f22) = true)
    {f23 : Addr} {od23 an23 : Option Addr} {sl23 : Array (Option Value)} {oc23 kV23 dc23 pm23 cd23 ct23 : Value} (a23 : PySem.W.nsIn K mainGlobals "edge_of" = some (some (.ref f23))) (l23 : K.lookup f23 = some ⟨oc23, od23, .func (PySem.W.fnOf "edge_of" "edge_of" (defArgs s_edge_of) (defBody s_edge_of) (defScope s_edge_of) .none kV23 dc23 pm23 an23 cd23 ct23), sl23⟩) (c23 : PySem.W.codeIn K cd23 "edge_of" = true) (k23 : PySem.W.keepIn K (.ref f23) = true)
    {f24 : Addr} {od24 an24 : Option Addr} {sl24 : Array (Option Value)} {oc24 kV24 dc24 pm24 cd24 ct24 : Value} (a24 : PySem.W.findIn K (.ref C) "turn" = some (some (.ref f24))) (l24 : K.lookup f24 = some ⟨oc24, od24, .func (PySem.W.fnOf "turn" "CrankMachine.turn" (defArgs s_o_turn) (defBody s_o_turn) (defScope s_o_turn) .none kV24 dc24 pm24 an24 cd24 ct24), sl24⟩) (c24 : PySem.W.codeIn K cd24 "CrankMachine.turn" = true) (k24 : PySem.W.keepIn K (.ref f24) = true) (i24 : PySem.W.isFn K (.ref f24) = true)
    {f25 : Addr} {od25 an25 : Option Addr} {sl25 : Array (Option Value)} {oc25 kV25 dc25 pm25 cd25 ct25 : Value} (a25 : PySem.W.findIn K (.ref C) "clear_register" = some (some (.ref f25))) (l25 : K.lookup f25 = some ⟨oc25, od25, .func (PySem.W.fnOf "clear_register" "CrankMachine.clear_register" (defArgs s_o_clear_register) (defBody s_o_clear_register) (defScope s_o_clear_register) .none kV25 dc25 pm25 an25 cd25 ct25), sl25⟩) (c25 : PySem.W.codeIn K cd25 "CrankMachine.clear_register" = true) (k25 : PySem.W.keepIn K (.ref f25) = true) (i25 : PySem.W.isFn K (.ref f25) = true)
    {f26 : Addr} {od26 an26 : Option Addr} {sl26 : Array (Option Value)} {oc26 kV26 dc26 pm26 cd26 ct26 : Value} (a26 : PySem.W.nsIn K mainGlobals "_law_call" = some (some (.ref f26))) (l26 : K.lookup f26 = some ⟨oc26, od26, .func (PySem.W.fnOf "_law_call" "_law_call" (defArgs s_call) (defBody s_call) (defScope s_call) .none kV26 dc26 pm26 an26 cd26 ct26), sl26⟩) (c26 : PySem.W.codeIn K cd26 "_law_call" = true) (k26 : PySem.W.keepIn K (.ref f26) = true)
    {p27 : Addr} {rest27 : List Value} {f27 : Addr} {od27 an27 : Option Addr} {sl27 : Array (Option Value)} {oc27 kV27 dc27 pm27 cd27 ct27 : Value} (a27 : PySem.W.findIn K (.ref C) "display" = some (some (.ref p27))) (g27 : PySem.W.specialIn K (.ref p27) "__get__" = some (some (.builtin "property.__get__"))) (t27 : PySem.W.takesIn K (.ref p27) = some true) (r27 : PySem.W.recIn K p27 "property" = some (.ref f27 :: rest27)) (l27 : K.lookup f27 = some ⟨oc27, od27, .func (PySem.W.fnOf "display" "CrankMachine.display" (defArgs s_o_display) (defBody s_o_display) (defScope s_o_display) .none kV27 dc27 pm27 an27 cd27 ct27), sl27⟩) (c27 : PySem.W.codeIn K cd27 "CrankMachine.display" = true) (k27 : PySem.W.keepIn K (.ref f27) = true)
    {p28 : Addr} {rest28 : List Value} {f28 : Addr} {od28 an28 : Option Addr} {sl28 : Array (Option Value)} {oc28 kV28 dc28 pm28 cd28 ct28 : Value} (a28 : PySem.W.findIn K (.ref C) "counter" = some (some (.ref p28))) (g28 : PySem.W.specialIn K (.ref p28) "__get__" = some (some (.builtin "property.__get__"))) (t28 : PySem.W.takesIn K (.ref p28) = some true) (r28 : PySem.W.recIn K p28 "property" = some (.ref f28 :: rest28)) (l28 : K.lookup f28 = some ⟨oc28, od28, .func (PySem.W.fnOf "counter" "CrankMachine.counter" (defArgs s_o_counter) (defBody s_o_counter) (defScope s_o_counter) .none kV28 dc28 pm28 an28 cd28 ct28), sl28⟩) (c28 : PySem.W.codeIn K cd28 "CrankMachine.counter" = true) (k28 : PySem.W.keepIn K (.ref f28) = true)
    {p29 : Addr} {rest29 : List Value} {f29 : Addr} {od29 an29 : Option Addr} {sl29 : Array (Option Value)} {oc29 kV29 dc29 pm29 cd29 ct29 : Value} (a29 : PySem.W.findIn K (.ref C) "setting" = some (some (.ref p29))) (g29 : PySem.W.specialIn K (.ref p29) "__get__" = some (some (.builtin "property.__get__"))) (t29 : PySem.W.takesIn K (.ref p29) = some true) (r29 : PySem.W.recIn K p29 "property" = some (.ref f29 :: rest29)) (l29 : K.lookup f29 = some ⟨oc29, od29, .func (PySem.W.fnOf "setting" "CrankMachine.setting" (defArgs s_o_setting) (defBody s_o_setting) (defScope s_o_setting) .none kV29 dc29 pm29 an29 cd29 ct29), sl29⟩) (c29 : PySem.W.codeIn K cd29 "CrankMachine.setting" = true) (k29 : PySem.W.keepIn K (.ref f29) = true)
    {p30 : Addr} {rest30 : List Value} {f30 : Addr} {od30 an30 : Option Addr} {sl30 : Array (Option Value)} {oc30 kV30 dc30 pm30 cd30 ct30 : Value} (a30 : PySem.W.findIn K (.ref C) "place" = some (some (.ref p30))) (g30 : PySem.W.specialIn K (.ref p30) "__get__" = some (some (.builtin "property.__get__"))) (t30 : PySem.W.takesIn K (.ref p30) = some true) (r30 : PySem.W.recIn K p30 "property" = some (.ref f30 :: rest30)) (l30 : K.lookup f30 = some ⟨oc30, od30, .func (PySem.W.fnOf "place" "CrankMachine.place" (defArgs s_o_place) (defBody s_o_place) (defScope s_o_place) .none kV30 dc30 pm30 an30 cd30 ct30), sl30⟩) (c30 : PySem.W.codeIn K cd30 "CrankMachine.place" = true) (k30 : PySem.W.keepIn K (.ref f30) = true)
    {p31 : Addr} {rest31 : List Value} {f31 : Addr} {od31 an31 : Option Addr} {sl31 : Array (Option Value)} {oc31 kV31 dc31 pm31 cd31 ct31 : Value} (a31 : PySem.W.findIn K (.ref C) "bells" = some (some (.ref p31))) (g31 : PySem.W.specialIn K (.ref p31) "__get__" = some (some (.builtin "property.__get__"))) (t31 : PySem.W.takesIn K (.ref p31) = some true) (r31 : PySem.W.recIn K p31 "property" = some (.ref f31 :: rest31)) (l31 : K.lookup f31 = some ⟨oc31, od31, .func (PySem.W.fnOf "bells" "CrankMachine.bells" (defArgs s_o_bells) (defBody s_o_bells) (defScope s_o_bells) .none kV31 dc31 pm31 an31 cd31 ct31), sl31⟩) (c31 : PySem.W.codeIn K cd31 "CrankMachine.bells" = true) (k31 : PySem.W.keepIn K (.ref f31) = true)
    {f32 : Addr} {od32 an32 : Option Addr} {sl32 : Array (Option Value)} {oc32 kV32 dc32 pm32 cd32 ct32 : Value} (a32 : PySem.W.nsIn K mainGlobals "_law_told" = some (some (.ref f32))) (l32 : K.lookup f32 = some ⟨oc32, od32, .func (PySem.W.fnOf "_law_told" "_law_told" (defArgs s_told) (defBody s_told) (defScope s_told) .none kV32 dc32 pm32 an32 cd32 ct32), sl32⟩) (c32 : PySem.W.codeIn K cd32 "_law_told" = true) (k32 : PySem.W.keepIn K (.ref f32) = true)
    {f33 : Addr} {od33 an33 : Option Addr} {sl33 : Array (Option Value)} {oc33 kV33 dc33 pm33 cd33 ct33 : Value} (a33 : PySem.W.nsIn K mainGlobals "_law_edge" = some (some (.ref f33))) (l33 : K.lookup f33 = some ⟨oc33, od33, .func (PySem.W.fnOf "_law_edge" "_law_edge" (defArgs s_edge) (defBody s_edge) (defScope s_edge) .none kV33 dc33 pm33 an33 cd33 ct33), sl33⟩) (c33 : PySem.W.codeIn K cd33 "_law_edge" = true) (k33 : PySem.W.keepIn K (.ref f33) = true)
    {f34 : Addr} {od34 an34 : Option Addr} {sl34 : Array (Option Value)} {oc34 kV34 dc34 pm34 cd34 ct34 : Value} (a34 : PySem.W.nsIn K mainGlobals "_law_turned" = some (some (.ref f34))) (l34 : K.lookup f34 = some ⟨oc34, od34, .func (PySem.W.fnOf "_law_turned" "_law_turned" (defArgs s_turned) (defBody s_turned) (defScope s_turned) .none kV34 dc34 pm34 an34 cd34 ct34), sl34⟩) (c34 : PySem.W.codeIn K cd34 "_law_turned" = true) (k34 : PySem.W.keepIn K (.ref f34) = true)
    {f35 : Addr} {od35 an35 : Option Addr} {sl35 : Array (Option Value)} {oc35 kV35 dc35 pm35 cd35 ct35 : Value} (a35 : PySem.W.nsIn K mainGlobals "_law_state" = some (some (.ref f35))) (l35 : K.lookup f35 = some ⟨oc35, od35, .func (PySem.W.fnOf "_law_state" "_law_state" (defArgs s_state) (defBody s_state) (defScope s_state) .none kV35 dc35 pm35 an35 cd35 ct35), sl35⟩) (c35 : PySem.W.codeIn K cd35 "_law_state" = true) (k35 : PySem.W.keepIn K (.ref f35) = true)
    {f36 : Addr} {od36 an36 : Option Addr} {sl36 : Array (Option Value)} {oc36 kV36 dc36 pm36 cd36 ct36 : Value} (a36 : PySem.W.nsIn K mainGlobals "_law_due" = some (some (.ref f36))) (l36 : K.lookup f36 = some ⟨oc36, od36, .func (PySem.W.fnOf "_law_due" "_law_due" (defArgs s_due) (defBody s_due) (defScope s_due) .none kV36 dc36 pm36 an36 cd36 ct36), sl36⟩) (c36 : PySem.W.codeIn K cd36 "_law_due" = true) (k36 : PySem.W.keepIn K (.ref f36) = true)
    {f37 : Addr} {od37 an37 : Option Addr} {sl37 : Array (Option Value)} {oc37 kV37 dc37 pm37 cd37 ct37 : Value} (a37 : PySem.W.findIn K (.ref C) "undo" = some (some (.ref f37))) (l37 : K.lookup f37 = some ⟨oc37, od37, .func (PySem.W.fnOf "undo" "CrankMachine.undo" (defArgs s_o_undo) (defBody s_o_undo) (defScope s_o_undo) .none kV37 dc37 pm37 an37 cd37 ct37), sl37⟩) (c37 : PySem.W.codeIn K cd37 "CrankMachine.undo" = true) (k37 : PySem.W.keepIn K (.ref f37) = true) (i37 : PySem.W.isFn K (.ref f37) = true)
    {f38 : Addr} {od38 an38 : Option Addr} {sl38 : Array (Option Value)} {oc38 kV38 dc38 pm38 cd38 ct38 : Value} (a38 : PySem.W.nsIn K mainGlobals "_law_longer_right" = some (some (.ref f38))) (l38 : K.lookup f38 = some ⟨oc38, od38, .func (PySem.W.fnOf "_law_longer_right" "_law_longer_right" (defArgs s_longer_right) (defBody s_longer_right) (defScope s_longer_right) .none kV38 dc38 pm38 an38 cd38 ct38), sl38⟩) (c38 : PySem.W.codeIn K cd38 "_law_longer_right" = true) (k38 : PySem.W.keepIn K (.ref f38) = true)
    {f39 : Addr} {od39 an39 : Option Addr} {sl39 : Array (Option Value)} {oc39 kV39 dc39 pm39 cd39 ct39 : Value} (a39 : PySem.W.nsIn K mainGlobals "_law_hundred_right" = some (some (.ref f39))) (l39 : K.lookup f39 = some ⟨oc39, od39, .func (PySem.W.fnOf "_law_hundred_right" "_law_hundred_right" (defArgs s_hundred_right) (defBody s_hundred_right) (defScope s_hundred_right) .none kV39 dc39 pm39 an39 cd39 ct39), sl39⟩) (c39 : PySem.W.codeIn K cd39 "_law_hundred_right" = true) (k39 : PySem.W.keepIn K (.ref f39) = true)
    {f40 : Addr} {od40 an40 : Option Addr} {sl40 : Array (Option Value)} {oc40 kV40 dc40 pm40 cd40 ct40 : Value} (a40 : PySem.W.nsIn K mainGlobals "_law_stepped" = some (some (.ref f40))) (l40 : K.lookup f40 = some ⟨oc40, od40, .func (PySem.W.fnOf "_law_stepped" "_law_stepped" (defArgs s_stepped) (defBody s_stepped) (defScope s_stepped) .none kV40 dc40 pm40 an40 cd40 ct40), sl40⟩) (c40 : PySem.W.codeIn K cd40 "_law_stepped" = true) (k40 : PySem.W.keepIn K (.ref f40) = true)
    {f41 : Addr} {od41 an41 : Option Addr} {sl41 : Array (Option Value)} {oc41 kV41 dc41 pm41 cd41 ct41 : Value} (a41 : PySem.W.nsIn K mainGlobals "_law_are_right" = some (some (.ref f41))) (l41 : K.lookup f41 = some ⟨oc41, od41, .func (PySem.W.fnOf "_law_are_right" "_law_are_right" (defArgs s_are_right) (defBody s_are_right) (defScope s_are_right) .none kV41 dc41 pm41 an41 cd41 ct41), sl41⟩) (c41 : PySem.W.codeIn K cd41 "_law_are_right" = true) (k41 : PySem.W.keepIn K (.ref f41) = true)
    {f42 : Addr} {od42 an42 : Option Addr} {sl42 : Array (Option Value)} {oc42 kV42 dc42 pm42 cd42 ct42 : Value} (a42 : PySem.W.nsIn K mainGlobals "_law_right" = some (some (.ref f42))) (l42 : K.lookup f42 = some ⟨oc42, od42, .func (PySem.W.fnOf "_law_right" "_law_right" (defArgs s_right) (defBody s_right) (defScope s_right) .none kV42 dc42 pm42 an42 cd42 ct42), sl42⟩) (c42 : PySem.W.codeIn K cd42 "_law_right" = true) (k42 : PySem.W.keepIn K (.ref f42) = true)
    {f43 : Addr} {od43 an43 : Option Addr} {sl43 : Array (Option Value)} {oc43 kV43 dc43 pm43 cd43 ct43 : Value} (a43 : PySem.W.nsIn K mainGlobals "_law_kind" = some (some (.ref f43))) (l43 : K.lookup f43 = some ⟨oc43, od43, .func (PySem.W.fnOf "_law_kind" "_law_kind" (defArgs s_kind) (defBody s_kind) (defScope s_kind) .none kV43 dc43 pm43 an43 cd43 ct43), sl43⟩) (c43 : PySem.W.codeIn K cd43 "_law_kind" = true) (k43 : PySem.W.keepIn K (.ref f43) = true)
    {f44 : Addr} {od44 an44 : Option Addr} {sl44 : Array (Option Value)} {oc44 kV44 dc44 pm44 cd44 ct44 : Value} (a44 : PySem.W.nsIn K mainGlobals "law" = some (some (.ref f44))) (l44 : K.lookup f44 = some ⟨oc44, od44, .func (PySem.W.fnOf "law" "law" (defArgs s_law) (defBody s_law) (defScope s_law) .none kV44 dc44 pm44 an44 cd44 ct44), sl44⟩) (c44 : PySem.W.codeIn K cd44 "law" = true) (k44 : PySem.W.keepIn K (.ref f44) = true)
    (z_abs : PySem.W.nsIn K mainGlobals "abs" = some none)
    (z_bool : PySem.W.nsIn K mainGlobals "bool" = some none)
    (z_divmod : PySem.W.nsIn K mainGlobals "divmod" = some none)
    (z_int : PySem.W.nsIn K mainGlobals "int" = some none)
    (z_isinstance : PySem.W.nsIn K mainGlobals "isinstance" = some none)
    (z_len : PySem.W.nsIn K mainGlobals "len" = some none)
    (z_list : PySem.W.nsIn K mainGlobals "list" = some none)
    (z_min : PySem.W.nsIn K mainGlobals "min" = some none)
    (z_range : PySem.W.nsIn K mainGlobals "range" = some none)
    (z_repr : PySem.W.nsIn K mainGlobals "repr" = some none)
    (z_tuple : PySem.W.nsIn K mainGlobals "tuple" = some none)
    {t_MOST_PLACES : Tok} (q_MOST_PLACES : PySem.W.nsIn K mainGlobals "MOST_PLACES" = some (some (.int 40 t_MOST_PLACES))) :
    ∃ (C : Addr) (fd : FuncData), (∀ (s : Shared) (v : Value), BindsTo s fd ⟨[v], []⟩ [("_law_script", v)]) ∧ ∀ base : Heap, K.In base → base.Ns mainGlobals mg → FnG l.prog w K mg base CX0 10 fa fd ["_law_script"] (@spD (plainAt C) K 1 m_law) := by
  have e := hfa.symm.trans (PySem.W.mg_of X G a44)
  cases e
  letI mm : Memo := plainAt C
  haveI : Triv mm := inferInstanceAs (Triv (plainAt C))
  haveI : Still mm := inferInstanceAs (Still (plainAt C))
  haveI : NoM mm := inferInstanceAs (NoM (plainAt C))
  let T : TX C K mg := {
    cl := ⟨x_pg, x_hd, x_po, x_sa⟩
    c_own := PySem.W.mg_of X G x_C
    eqc := ⟨⟨x__a, x__n, x__t, x__m⟩, x__ne, x__y⟩
    n_kept_calls := x_kept_calls
    n_kept_machine := x_kept_machine
    e_stock := ⟨_, _, fun_mk (st := s_stock) l0 c0 k0, PySem.W.mg_of X G a0, k0, (fun_mk (st := s_stock) l0 c0 k0).binds fun _ _ _ _ _ _ us hl => match us, hl with | [_], _ => rfl⟩
    e_is_integer := ⟨_, _, fun_mk (st := s_is_integer) l1 c1 k1, PySem.W.mg_of X G a1, k1, (fun_mk (st := s_is_integer) l1 c1 k1).binds fun _ _ _ _ _ _ us hl => match us, hl with | [_], _ => rfl⟩
    e_is_between := ⟨_, _, fun_mk (st := s_is_between) l2 c2 k2, PySem.W.mg_of X G a2, k2, (fun_mk (st := s_is_between) l2 c2 k2).binds fun _ _ _ _ _ _ us hl => match us, hl with | [_, _, _], _ => rfl⟩
    e_machine_fault := ⟨_, _, fun_mk (st := s_machine_fault) l3 c3 k3, PySem.W.mg_of X G a3, k3, (fun_mk (st := s_machine_fault) l3 c3 k3).binds fun _ _ _ _ _ _ us hl => match us, hl with | [_], _ => rfl⟩
    e_require_machine := ⟨_, _, fun_mk (st := s_require_machine) l4 c4 k4, PySem.W.mg_of X G a4, k4, (fun_mk (st := s_require_machine) l4 c4 k4).binds fun _ _ _ _ _ _ us hl => match us, hl with | [_], _ => rfl⟩
    e_o_init := ⟨_, _, (fun_mk (st := s_o_init) l5 c5 k5), ⟨x_mk, a5, i5, x_kp⟩, (fun_mk (st := s_o_init) l5 c5 k5).binds fun _ _ _ _ _ _ us hl => match us, hl with | [_, _], _ => rfl⟩
    e_o_fork := ⟨_, _, (fun_mk (st := s_o_fork) l6 c6 k6), ⟨a6, i6, k6⟩, (fun_mk (st := s_o_fork) l6 c6 k6).binds fun _ _ _ _ _ _ us hl => match us, hl with | [_], _ => rfl⟩
    e_o_log := ⟨_, _, _, (fun_mk (st := s_o_log) l7 c7 k7), ⟨a7, g7, t7, ⟨_, r7⟩⟩, (fun_mk (st := s_o_log) l7 c7 k7).binds fun _ _ _ _ _ _ us hl => match us, hl with | [_], _ => rfl⟩
    e_o_eq := ⟨_, _, (fun_mk (st := s_o_eq) l8 c8 k8), ⟨a8, i8, k8⟩, (fun_mk (st := s_o_eq) l8 c8 k8).binds fun _ _ _ _ _ _ us hl => match us, hl with | [_, _], _ => rfl⟩
    e_draw := ⟨_, _, fun_mk (st := s_draw) l9 c9 k9, PySem.W.mg_of X G a9, k9, (fun_mk (st := s_draw) l9 c9 k9).binds fun _ _ _ _ _ _ us hl => match us, hl with | [_, _], _ => rfl⟩
    e_o_len := ⟨_, _, (fun_mk (st := s_o_len) l10 c10 k10), ⟨a10, i10, k10⟩, (fun_mk (st := s_o_len) l10 c10 k10).binds fun _ _ _ _ _ _ us hl => match us, hl with | [_], _ => rfl⟩
    e_tens := ⟨_, _, fun_mk (st := s_tens) l11 c11 k11, PySem.W.mg_of X G a11, k11, (fun_mk (st := s_tens) l11 c11 k11).binds fun _ _ _ _ _ _ us hl => match us, hl with | [_], _ => rfl⟩
    e_figure := ⟨_, _, fun_mk (st := s_figure) l12 c12 k12, PySem.W.mg_of X G a12, k12, (fun_mk (st := s_figure) l12 c12 k12).binds fun _ _ _ _ _ _ us hl => match us, hl with | [_, _], _ => rfl⟩
    e_next := ⟨_, _, fun_mk (st := s_next) l13 c13 k13, PySem.W.mg_of X G a13, k13, (fun_mk (st := s_next) l13 c13 k13).binds fun _ _ _ _ _ _ us hl => match us, hl with | [_, _, _], _ => rfl⟩
    e_places_of := ⟨_, _, fun_mk (st := s_places_of) l14 c14 k14, PySem.W.mg_of X G a14, k14, (fun_mk (st := s_places_of) l14 c14 k14).binds fun _ _ _ _ _ _ us hl => match us, hl with | [_], _ => rfl⟩
    e_o_state_now := ⟨_, _, (fun_mk (st := s_o_state_now) l15 c15 k15), ⟨a15, i15, k15⟩, (fun_mk (st := s_o_state_now) l15 c15 k15).binds fun _ _ _ _ _ _ us hl => match us, hl with | [_], _ => rfl⟩
    e_o_keep := ⟨_, _, (fun_mk (st := s_o_keep) l16 c16 k16), ⟨a16, i16, k16⟩, (fun_mk (st := s_o_keep) l16 c16 k16).binds fun _ _ _ _ _ _ us hl => match us, hl with | [_, _, _], _ => rfl⟩
    e_o_clear_counter := ⟨_, _, (fun_mk (st := s_o_clear_counter) l17 c17 k17), ⟨a17, i17, k17⟩, (fun_mk (st := s_o_clear_counter) l17 c17 k17).binds fun _ _ _ _ _ _ us hl => match us, hl with | [_], _ => rfl⟩
    e_ten_power := ⟨_, _, fun_mk (st := s_ten_power) l18 c18 k18, PySem.W.mg_of X G a18, k18, (fun_mk (st := s_ten_power) l18 c18 k18).binds fun _ _ _ _ _ _ us hl => match us, hl with | [_], _ => rfl⟩
    e_require_setting := ⟨_, _, fun_mk (st := s_require_setting) l19 c19 k19, PySem.W.mg_of X G a19, k19, (fun_mk (st := s_require_setting) l19 c19 k19).binds fun _ _ _ _ _ _ us hl => match us, hl with | [_, _], _ => rfl⟩
    e_o_set_to := ⟨_, _, (fun_mk (st := s_o_set_to) l20 c20 k20), ⟨a20, i20, k20⟩, (fun_mk (st := s_o_set_to) l20 c20 k20).binds fun _ _ _ _ _ _ us hl => match us, hl with | [_, _], _ => rfl⟩
    e_require_place := ⟨_, _, fun_mk (st := s_require_place) l21 c21 k21, PySem.W.mg_of X G a21, k21, (fun_mk (st := s_require_place) l21 c21 k21).binds fun _ _ _ _ _ _ us hl => match us, hl with | [_, _], _ => rfl⟩
    e_o_shift_to := ⟨_, _, (fun_mk (st := s_o_shift_to) l22 c22 k22), ⟨a22, i22, k22⟩, (fun_mk (st := s_o_shift_to) l22 c22 k22).binds fun _ _ _ _ _ _ us hl => match us, hl with | [_, _], _ => rfl⟩
    e_edge_of := ⟨_, _, fun_mk (st := s_edge_of) l23 c23 k23, PySem.W.mg_of X G a23, k23, (fun_mk (st := s_edge_of) l23 c23 k23).binds fun _ _ _ _ _ _ us hl => match us, hl with | [_, _], _ => rfl⟩
    e_o_turn := ⟨_, _, (fun_mk (st := s_o_turn) l24 c24 k24), ⟨a24, i24, k24⟩, (fun_mk (st := s_o_turn) l24 c24 k24).binds fun _ _ _ _ _ _ us hl => match us, hl with | [_, _], _ => rfl⟩
    e_o_clear_register := ⟨_, _, (fun_mk (st := s_o_clear_register) l25 c25 k25), ⟨a25, i25, k25⟩, (fun_mk (st := s_o_clear_register) l25 c25 k25).binds fun _ _ _ _ _ _ us hl => match us, hl with | [_], _ => rfl⟩
    e_call := ⟨_, _, fun_mk (st := s_call) l26 c26 k26, PySem.W.mg_of X G a26, k26, (fun_mk (st := s_call) l26 c26 k26).binds fun _ _ _ _ _ _ us hl => match us, hl with | [_, _], _ => rfl⟩
    e_o_display := ⟨_, _, _, (fun_mk (st := s_o_display) l27 c27 k27), ⟨a27, g27, t27, ⟨_, r27⟩⟩, (fun_mk (st := s_o_display) l27 c27 k27).binds fun _ _ _ _ _ _ us hl => match us, hl with | [_], _ => rfl⟩
    e_o_counter := ⟨_, _, _, (fun_mk (st := s_o_counter) l28 c28 k28), ⟨a28, g28, t28, ⟨_, r28⟩⟩, (fun_mk (st := s_o_counter) l28 c28 k28).binds fun _ _ _ _ _ _ us hl => match us, hl with | [_], _ => rfl⟩
    e_o_setting := ⟨_, _, _, (fun_mk (st := s_o_setting) l29 c29 k29), ⟨a29, g29, t29, ⟨_, r29⟩⟩, (fun_mk (st := s_o_setting) l29 c29 k29).binds fun _ _ _ _ _ _ us hl => match us, hl with | [_], _ => rfl⟩
    e_o_place := ⟨_, _, _, (fun_mk (st := s_o_place) l30 c30 k30), ⟨a30, g30, t30, ⟨_, r30⟩⟩, (fun_mk (st := s_o_place) l30 c30 k30).binds fun _ _ _ _ _ _ us hl => match us, hl with | [_], _ => rfl⟩
    e_o_bells := ⟨_, _, _, (fun_mk (st := s_o_bells) l31 c31 k31), ⟨a31, g31, t31, ⟨_, r31⟩⟩, (fun_mk (st := s_o_bells) l31 c31 k31).binds fun _ _ _ _ _ _ us hl => match us, hl with | [_], _ => rfl⟩
    e_told := ⟨_, _, fun_mk (st := s_told) l32 c32 k32, PySem.W.mg_of X G a32, k32, (fun_mk (st := s_told) l32 c32 k32).binds fun _ _ _ _ _ _ us hl => match us, hl with | [_], _ => rfl⟩
    e_edge := ⟨_, _, fun_mk (st := s_edge) l33 c33 k33, PySem.W.mg_of X G a33, k33, (fun_mk (st := s_edge) l33 c33 k33).binds fun _ _ _ _ _ _ us hl => match us, hl with | [_, _], _ => rfl⟩
    e_turned := ⟨_, _, fun_mk (st := s_turned) l34 c34 k34, PySem.W.mg_of X G a34, k34, (fun_mk (st := s_turned) l34 c34 k34).binds fun _ _ _ _ _ _ us hl => match us, hl with | [_, _, _, _, _], _ => rfl⟩
    e_state := ⟨_, _, fun_mk (st := s_state) l35 c35 k35, PySem.W.mg_of X G a35, k35, (fun_mk (st := s_state) l35 c35 k35).binds fun _ _ _ _ _ _ us hl => match us, hl with | [_, _], _ => rfl⟩
    e_due := ⟨_, _, fun_mk (st := s_due) l36 c36 k36, PySem.W.mg_of X G a36, k36, (fun_mk (st := s_due) l36 c36 k36).binds fun _ _ _ _ _ _ us hl => match us, hl with | [_, _], _ => rfl⟩
    e_o_undo := ⟨_, _, (fun_mk (st := s_o_undo) l37 c37 k37), ⟨a37, i37, k37⟩, (fun_mk (st := s_o_undo) l37 c37 k37).binds fun _ _ _ _ _ _ us hl => match us, hl with | [_], _ => rfl⟩
    e_longer_right := ⟨_, _, fun_mk (st := s_longer_right) l38 c38 k38, PySem.W.mg_of X G a38, k38, (fun_mk (st := s_longer_right) l38 c38 k38).binds fun _ _ _ _ _ _ us hl => match us, hl with | [_, _, _, _], _ => rfl⟩
    e_hundred_right := ⟨_, _, fun_mk (st := s_hundred_right) l39 c39 k39, PySem.W.mg_of X G a39, k39, (fun_mk (st := s_hundred_right) l39 c39 k39).binds fun _ _ _ _ _ _ us hl => match us, hl with | [_, _], _ => rfl⟩
    e_stepped := ⟨_, _, fun_mk (st := s_stepped) l40 c40 k40, PySem.W.mg_of X G a40, k40, (fun_mk (st := s_stepped) l40 c40 k40).binds fun _ _ _ _ _ _ us hl => match us, hl with | [_, _, _, _], _ => rfl⟩
    e_are_right := ⟨_, _, fun_mk (st := s_are_right) l41 c41 k41, PySem.W.mg_of X G a41, k41, (fun_mk (st := s_are_right) l41 c41 k41).binds fun _ _ _ _ _ _ us hl => match us, hl with | [_, _], _ => rfl⟩
    e_right := ⟨_, _, fun_mk (st := s_right) l42 c42 k42, PySem.W.mg_of X G a42, k42, (fun_mk (st := s_right) l42 c42 k42).binds fun _ _ _ _ _ _ us hl => match us, hl with | [_, _, _], _ => rfl⟩
    e_kind := ⟨_, _, fun_mk (st := s_kind) l43 c43 k43, PySem.W.mg_of X G a43, k43, (fun_mk (st := s_kind) l43 c43 k43).binds fun _ _ _ _ _ _ us hl => match us, hl with | [_, _], _ => rfl⟩
    e_law := ⟨_, _, fun_mk (st := s_law) l44 c44 k44, PySem.W.mg_of X G a44, k44, (fun_mk (st := s_law) l44 c44 k44).binds fun _ _ _ _ _ _ us hl => match us, hl with | [_], _ => rfl⟩
    b_abs := PySem.W.mg_none_of X G z_abs
    b_bool := PySem.W.mg_none_of X G z_bool
    b_divmod := PySem.W.mg_none_of X G z_divmod
    b_int := PySem.W.mg_none_of X G z_int
    b_isinstance := PySem.W.mg_none_of X G z_isinstance
    b_len := PySem.W.mg_none_of X G z_len
    b_list := PySem.W.mg_none_of X G z_list
    b_min := PySem.W.mg_none_of X G z_min
    b_range := PySem.W.mg_none_of X G z_range
    b_repr := PySem.W.mg_none_of X G z_repr
    b_tuple := PySem.W.mg_none_of X G z_tuple
    c_MOST_PLACES := ⟨_, PySem.W.mg_of X G q_MOST_PLACES⟩ }
  exact ⟨C, T.e_law.fd, fun s v => .of_eq rfl, fun base _ _ => ok_law (base := base) T⟩
end CK
open PySem PySem.W PyProof.Rows in
set_option maxHeartbeats 0 in
theorem PySem.Challenge.cw_crankcarry_k45_undone_and_forked_holds : PySem.Challenge.rw_crankcarry_k45_undone_and_forked.Holds := by
  w_on; o_law; k_head; (case hw => w_witness2)
  k_fill
  refine CK.walkGC (l := PySem.Challenge.rw_crankcarry_k45_undone_and_forked) (n := 63) (k := 10) (x := "_law_script") (f := CK.m_law) rfl (by decide) rfl ⟨rfl, by decide, by decide⟩ (fun w h Y => PySem.W.kIn_of Y) ?F CK.law_true
  case F =>
    intro w mg fa h KX G hmg
    refine' CK.all_mk KX G hmg ?x_C ?x_pg ?x_hd ?x_po ?x_sa ?x_mk ?x_kp ?x__ne ?x__a ?x__n ?x__t ?x__m ?x__y ?x_kept_calls ?x_kept_machine ?a0 ?l0 ?c0 ?k0 ?a1 ?l1 ?c1 ?k1 ?a2 ?l2 ?c2 ?k2 ?a3 ?l3 ?c3 ?k3 ?a4 ?l4 ?c4 ?k4 ?a5 ?l5 ?c5 ?k5 ?i5 ?a6 ?l6 ?c6 ?k6 ?i6 ?a7 ?g7 ?t7 ?r7 ?l7 ?c7 ?k7 ?a8 ?l8 ?c8 ?k8 ?i8 ?a9 ?l9 ?c9 ?k9 ?a10 ?l10 ?c10 ?k10 ?i10 ?a11 ?l11 ?c11 ?k11 ?a12 ?l12 ?c12 ?k12 ?a13 ?l13 ?c13 ?k13 ?a14 ?l14 ?c14 ?k14 ?a15 ?l15 ?c15 ?k15 ?i15 ?a16 ?l16 ?c16 ?k16 ?i16 ?a17 ?l17 ?c17 ?k17 ?i17 ?a18 ?l18 ?c18 ?k18 ?a19 ?l19 ?c19 ?k19 ?a20 ?l20 ?c20 ?k20 ?i20 ?a21 ?l21 ?c21 ?k21 ?a22 ?l22 ?c22 ?k22 ?i22 ?a23 ?l23 ?c23 ?k23 ?a24 ?l24 ?c24 ?k24 ?i24 ?a25 ?l25 ?c25 ?k25 ?i25 ?a26 ?l26 ?c26 ?k26 ?a27 ?g27 ?t27 ?r27 ?l27 ?c27 ?k27 ?a28 ?g28 ?t28 ?r28 ?l28 ?c28 ?k28 ?a29 ?g29 ?t29 ?r29 ?l29 ?c29 ?k29 ?a30 ?g30 ?t30 ?r30 ?l30 ?c30 ?k30 ?a31 ?g31 ?t31 ?r31 ?l31 ?c31 ?k31 ?a32 ?l32 ?c32 ?k32 ?a33 ?l33 ?c33 ?k33 ?a34 ?l34 ?c34 ?k34 ?a35 ?l35 ?c35 ?k35 ?a36 ?l36 ?c36 ?k36 ?a37 ?l37 ?c37 ?k37 ?i37 ?a38 ?l38 ?c38 ?k38 ?a39 ?l39 ?c39 ?k39 ?a40 ?l40 ?c40 ?k40 ?a41 ?l41 ?c41 ?k41 ?a42 ?l42 ?c42 ?k42 ?a43 ?l43 ?c43 ?k43 ?a44 ?l44 ?c44 ?k44 ?z_abs ?z_bool ?z_divmod ?z_int ?z_isinstance ?z_len ?z_list ?z_min ?z_range ?z_repr ?z_tuple ?q_MOST_PLACES
    (case x_C => k_is)
    (case x_pg => k_is)
    (case x_hd => k_is)
    (case x_po => k_is)
    (case x_sa => k_is)
    (case x_mk => k_is)
    (case x_kp => k_is)
    (case x__ne => k_is)
    (case x__a => k_is)
    (case x__n => k_is)
    (case x__t => k_is)
    (case x__m => k_is)
    (case x__y => k_is)
    (case x_kept_calls => k_is)
    (case x_kept_machine => k_is)
    (case a0 => k_is)
    (case l0 => k_is)
    (case c0 => k_is)
    (case k0 => k_is)
    (case a1 => k_is)
    (case l1 => k_is)
    (case c1 => k_is)
    (case k1 => k_is)
    (case a2 => k_is)
    (case l2 => k_is)
    (case c2 => k_is)
    (case k2 => k_is)
    (case a3 => k_is)
    (case l3 => k_is)
    (case c3 => k_is)
    (case k3 => k_is)
    (case a4 => k_is)
    (case l4 => k_is)
    (case c4 => k_is)
    (case k4 => k_is)
    (case a5 => k_is)
    (case l5 => k_is)
    (case c5 => k_is)
    (case k5 => k_is)
    (case i5 => k_is)
    (case a6 => k_is)
    (case l6 => k_is)
    (case c6 => k_is)
    (case k6 => k_is)
    (case i6 => k_is)
    (case a7 => k_is)
    (case g7 => k_is)
    (case t7 => k_is)
    (case r7 => k_is)
    (case l7 => k_is)
    (case c7 => k_is)
    (case k7 => k_is)
    (case a8 => k_is)
    (case l8 => k_is)
    (case c8 => k_is)
    (case k8 => k_is)
    (case i8 => k_is)
    (case a9 => k_is)
    (case l9 => k_is)
    (case c9 => k_is)
    (case k9 => k_is)
    (case a10 => k_is)
    (case l10 => k_is)
    (case c10 => k_is)
    (case k10 => k_is)
    (case i10 => k_is)
    (case a11 => k_is)
    (case l11 => k_is)
    (case c11 => k_is)
    (case k11 => k_is)
    (case a12 => k_is)
    (case l12 => k_is)
    (case c12 => k_is)
    (case k12 => k_is)
    (case a13 => k_is)
    (case l13 => k_is)
    (case c13 => k_is)
    (case k13 => k_is)
    (case a14 => k_is)
    (case l14 => k_is)
    (case c14 => k_is)
    (case k14 => k_is)
    (case a15 => k_is)
    (case l15 => k_is)
    (case c15 => k_is)
    (case k15 => k_is)
    (case i15 => k_is)
    (case a16 => k_is)
    (case l16 => k_is)
    (case c16 => k_is)
    (case k16 => k_is)
    (case i16 => k_is)
    (case a17 => k_is)
    (case l17 => k_is)
    (case c17 => k_is)
    (case k17 => k_is)
    (case i17 => k_is)
    (case a18 => k_is)
    (case l18 => k_is)
    (case c18 => k_is)
    (case k18 => k_is)
    (case a19 => k_is)
    (case l19 => k_is)
    (case c19 => k_is)
    (case k19 => k_is)
    (case a20 => k_is)
    (case l20 => k_is)
    (case c20 => k_is)
    (case k20 => k_is)
    (case i20 => k_is)
    (case a21 => k_is)
    (case l21 => k_is)
    (case c21 => k_is)
    (case k21 => k_is)
    (case a22 => k_is)
    (case l22 => k_is)
    (case c22 => k_is)
    (case k22 => k_is)
    (case i22 => k_is)
    (case a23 => k_is)
    (case l23 => k_is)
    (case c23 => k_is)
    (case k23 => k_is)
    (case a24 => k_is)
    (case l24 => k_is)
    (case c24 => k_is)
    (case k24 => k_is)
    (case i24 => k_is)
    (case a25 => k_is)
    (case l25 => k_is)
    (case c25 => k_is)
    (case k25 => k_is)
    (case i25 => k_is)
    (case a26 => k_is)
    (case l26 => k_is)
    (case c26 => k_is)
    (case k26 => k_is)
    (case a27 => k_is)
    (case g27 => k_is)
    (case t27 => k_is)
    (case r27 => k_is)
    (case l27 => k_is)
    (case c27 => k_is)
    (case k27 => k_is)
    (case a28 => k_is)
    (case g28 => k_is)
    (case t28 => k_is)
    (case r28 => k_is)
    (case l28 => k_is)
    (case c28 => k_is)
    (case k28 => k_is)
    (case a29 => k_is)
    (case g29 => k_is)
    (case t29 => k_is)
    (case r29 => k_is)
    (case l29 => k_is)
    (case c29 => k_is)
    (case k29 => k_is)
    (case a30 => k_is)
    (case g30 => k_is)
    (case t30 => k_is)
    (case r30 => k_is)
    (case l30 => k_is)
    (case c30 => k_is)
    (case k30 => k_is)
    (case a31 => k_is)
    (case g31 => k_is)
    (case t31 => k_is)
    (case r31 => k_is)
    (case l31 => k_is)
    (case c31 => k_is)
    (case k31 => k_is)
    (case a32 => k_is)
    (case l32 => k_is)
    (case c32 => k_is)
    (case k32 => k_is)
    (case a33 => k_is)
    (case l33 => k_is)
    (case c33 => k_is)
    (case k33 => k_is)
    (case a34 => k_is)
    (case l34 => k_is)
    (case c34 => k_is)
    (case k34 => k_is)
    (case a35 => k_is)
    (case l35 => k_is)
    (case c35 => k_is)
    (case k35 => k_is)
    (case a36 => k_is)
    (case l36 => k_is)
    (case c36 => k_is)
    (case k36 => k_is)
    (case a37 => k_is)
    (case l37 => k_is)
    (case c37 => k_is)
    (case k37 => k_is)
    (case i37 => k_is)
    (case a38 => k_is)
    (case l38 => k_is)
    (case c38 => k_is)
    (case k38 => k_is)
    (case a39 => k_is)
    (case l39 => k_is)
    (case c39 => k_is)
    (case k39 => k_is)
    (case a40 => k_is)
    (case l40 => k_is)
    (case c40 => k_is)
    (case k40 => k_is)
    (case a41 => k_is)
    (case l41 => k_is)
    (case c41 => k_is)
    (case k41 => k_is)
    (case a42 => k_is)
    (case l42 => k_is)
    (case c42 => k_is)
    (case k42 => k_is)
    (case a43 => k_is)
    (case l43 => k_is)
    (case c43 => k_is)
    (case k43 => k_is)
    (case a44 => k_is)
    (case l44 => k_is)
    (case c44 => k_is)
    (case k44 => k_is)
    (case z_abs => k_is)
    (case z_bool => k_is)
    (case z_divmod => k_is)
    (case z_int => k_is)
    (case z_isinstance => k_is)
    (case z_len => k_is)
    (case z_list => k_is)
    (case z_min => k_is)
    (case z_range => k_is)
    (case z_repr => k_is)
    (case z_tuple => k_is)
    (case q_MOST_PLACES => k_is)
