import PyProof.Rows.All
import Wide.All
import OpenK.AllK
import Wide.FinOn
import PySem.Challenge.RW_anglesuntold_k11_sums_of_fractions
import HandS.ForMost
import HandS.Wide
import HandS.WideBits
import HandS.IsInst
import HandS.Walk
import HandS.Exc
import HandS.ExcCtx
import HandS.Deep
import KE.GoesEnum
import KE.GoesMore
import HandS.ExcOwn
import HandS.WordsExc
import HandS.More
import HandS.TupAny
import HandS.TupMul
import HandS.Style
import HandS.NoneIn
import HandS.SortInts
import HandS.Text
import PyProof.ReprRoads
import PyProof.CallFns
import HandS.Star
import HandS.Ends
import HandS.Flow
import HandS.Conv
import HandS.Small
import HandS.RaiseMore
import KE.SortData
import HandS.SetFor
import HandS.Strs
import PyProof.Rows.Digits
import PyProof.Rows.StrOr
import PyProof.ReprLen
set_option Elab.async false
set_option linter.all false
set_option maxRecDepth 100000
/-! Mv: a layer over HandS. Values are PyData; a state gives each slot a value (frozen) or an own list. -/
namespace Mv
open L2 PySem.Spec PySem PyProof.Rows

abbrev D := PyData
/-- what a slot holds: nothing, a value, or a list that this def alone may change (io: its caller's) -/
inductive Sl where
  | no
  | val (d : D)
  | own (io : Bool) (xs : List D)
abbrev En := List Sl
inductive R (α : Type) where
  | ok (a : α) (e : En)
  | exc (c : Str) (fs : List (Str × D)) (e : En)
  | bad
abbrev M (α : Type) := En → R α
def R.bind {α β : Type} : R α → (α → En → R β) → R β
  | .ok a e, f => f a e
  | .exc c fs e, _ => .exc c fs e
  | .bad, _ => .bad
@[simp] theorem R.bind_ok {α β : Type} (a : α) (e : En) (f : α → En → R β) : (R.ok a e).bind f = f a e := rfl
@[simp] theorem R.bind_exc {α β : Type} (c : Str) (fs) (e : En) (f : α → En → R β) : (R.exc (α := α) c fs e).bind f = .exc c fs e := rfl
@[simp] theorem R.bind_bad {α β : Type} (f : α → En → R β) : (R.bad (α := α)).bind f = .bad := rfl

def isOwn (en : En) (i : Nat) : Prop := ∃ b xs, en[i]? = some (.own b xs)

/-- F: what stands frozen at the entry; Kp: what is to be kept; Z: the addresses that are not new; io: old ones that may be own -/
structure Bs where
  F : Hp
  Kp : Hp
  Z : Addr → Prop
  io : Addr → Prop

/-- a key of a dict, as a value -/
def keyD : Key → D
  | .inl i => .int i
  | .inr x => .str x
/-! ### data at an address: lists stand tracked (or locked), tuples tracked or written -/
mutual
inductive Dp (K : PySem.W.Frag) (F : Hp) : V → D → Prop
  | non : Dp K F .non .none
  | bl (b : Bool) : Dp K F (.bl b) (.bool b)
  | int (i : Int) : Dp K F (.int i) (.int i)
  | str (x : Str) : Dp K F (.str x) (.str x)
  | lst {a : Addr} {xs : List V} {ds : List D} : Rd F a (.lst xs) → DpAll K F xs ds → Dp K F (.ref a) (.list ds)
  | tup {a : Addr} {xs : List V} {ds : List D} : SqT K F a xs → DpAll K F xs ds → Dp K F (.ref a) (.tuple ds)
  | dic {a : Addr} {ks : List (Key × V)} {ds : List (D × D)} : Rd F a (.dK ks) → DpKv K F ks ds → Dp K F (.ref a) (.dict ds)
  | dit {a : Addr} {ks : List (List Key × V)} {ds : List (D × D)} : Rd F a (.dT ks) → DpTv K F ks ds → Dp K F (.ref a) (.dict ds)
inductive DpAll (K : PySem.W.Frag) (F : Hp) : List V → List D → Prop
  | nil : DpAll K F [] []
  | cons {v : V} {vs : List V} {d : D} {ds : List D} : Dp K F v d → DpAll K F vs ds → DpAll K F (v :: vs) (d :: ds)
/-- keys ints and texts -/
inductive DpKv (K : PySem.W.Frag) (F : Hp) : List (Key × V) → List (D × D) → Prop
  | nil : DpKv K F [] []
  | cons {k : Key} {v : V} {ks : List (Key × V)} {d : D} {ds : List (D × D)} : Dp K F v d → DpKv K F ks ds → DpKv K F ((k, v) :: ks) ((keyD k, d) :: ds)
/-- keys tuples of ints and texts -/
inductive DpTv (K : PySem.W.Frag) (F : Hp) : List (List Key × V) → List (D × D) → Prop
  | nil : DpTv K F [] []
  | cons {k : List Key} {v : V} {ks : List (List Key × V)} {d : D} {ds : List (D × D)} : Dp K F v d → DpTv K F ks ds → DpTv K F ((k, v) :: ks) ((.tuple (k.map keyD), d) :: ds)
end
section
variable {K : PySem.W.Frag}
mutual
theorem Dp.l2 {F : Hp} : ∀ {d : D} {v : V}, Dp K F v d → d.hasDict = false → L2.Dp K F v d
  | .none, _, .non, _ => .non
  | .bool _, _, .bl b, _ => .bl b
  | .int _, _, .int i, _ => .int i
  | .str _, _, .str x, _ => .str x
  | .list _, _, .lst h1 h2, h => .lst (.inl h1) (DpAll.l2 h2 (by simpa only [PyData.hasDict] using h))
  | .tuple _, _, .tup h1 h2, h => .tup h1 (DpAll.l2 h2 (by simpa only [PyData.hasDict] using h))
  | .dict _, _, .dic _ _, h => by simp only [PyData.hasDict] at h; cases h
  | .dict _, _, .dit _ _, h => by simp only [PyData.hasDict] at h; cases h
theorem DpAll.l2 {F : Hp} : ∀ {ds : List D} {vs : List V}, DpAll K F vs ds → PyData.hasDictAll ds = false → L2.DpAll K F vs ds
  | [], _, .nil, _ => .nil
  | _ :: _, _, .cons h1 h2, h => by
    simp only [PyData.hasDictAll, Bool.or_eq_false_iff] at h
    exact .cons (Dp.l2 h1 h.1) (DpAll.l2 h2 h.2)
end
mutual
theorem noDict_lay : ∀ {d : D}, d.canLay0 = true → d.hasDict = false
  | .none, _ => by simp only [PyData.hasDict]
  | .bool _, _ => by simp only [PyData.hasDict]
  | .int _, _ => by simp only [PyData.hasDict]
  | .str _, _ => by simp only [PyData.hasDict]
  | .list _, h => by simp only [PyData.hasDict]; exact noDicts_lay (by simpa only [PyData.canLay0] using h)
  | .tuple _, h => by simp only [PyData.hasDict]; exact noDicts_lay (by simpa only [PyData.canLay0] using h)
  | .dict _, h => by simp only [PyData.canLay0] at h; cases h
theorem noDicts_lay : ∀ {ds : List D}, PyData.canLayAll0 ds = true → PyData.hasDictAll ds = false
  | [], _ => by simp only [PyData.hasDictAll]
  | d :: ds, h => by
    simp only [PyData.canLayAll0, Bool.and_eq_true] at h
    simp only [PyData.hasDictAll, noDict_lay h.1, noDicts_lay h.2, Bool.or_self]
end
theorem rd_mono {F F' : Hp} {a : Addr} {u : HO} (e : Same F F') (h : Rd F a u) : Rd F' a u := h.imp (e _ _) fun ⟨o, q⟩ => ⟨o, e _ _ q⟩
theorem sqT_mono {F F' : Hp} {a : Addr} {xs : List V} (e : Same F F') (h : SqT K F a xs) : SqT K F' a xs := by
  rcases h with
                                                                                                                (h | ⟨o, h⟩) | h
  · exact .inl (.inl (e _ _ h))
  · exact .inl
                                                                                                                  (.inr ⟨o, e _ _ h⟩)
  · exact .inr h
mutual
theorem dp_mono {F F' : Hp} (e : Same F F') : ∀ {d : D} {v : V}, Dp K F v d → Dp K F' v d
  | .none, _, .non => .non
  | .bool _, _, .bl b => .bl b
  | .int _, _, .int i => .int i
  | .str _, _, .str x => .str x
  | .list _, _, .lst h1 h2 => .lst (rd_mono e h1) (dps_mono e h2)
  | .tuple _, _, .tup h1 h2 => .tup (sqT_mono e h1) (dps_mono e h2)
  | .dict _, _, .dic h1 h2 => .dic (rd_mono e h1) (dpk_mono e h2)
  | .dict _, _, .dit h1 h2 => .dit (rd_mono e h1) (dpt_mono e h2)
theorem dps_mono {F F' : Hp} (e : Same F F') : ∀ {ds : List D} {vs : List V}, DpAll K F vs ds → DpAll K F' vs ds
  | [], _, .nil => .nil
  | _ :: _, _, .cons h1 h2 => .cons (dp_mono e h1) (dps_mono e h2)
theorem dpk_mono {F F' : Hp} (e : Same F F') : ∀ {ds : List (D × D)} {vs : List (Key × V)}, DpKv K F vs ds → DpKv K F' vs ds
  | [], _, .nil => .nil
  | _ :: _, _, .cons h1 h2 => .cons (dp_mono e h1) (dpk_mono e h2)
theorem dpt_mono {F F' : Hp} (e : Same F F') : ∀ {ds : List (D × D)} {vs : List (List Key × V)}, DpTv K F vs ds → DpTv K F' vs ds
  | [], _, .nil => .nil
  | _ :: _, _, .cons h1 h2 => .cons (dp_mono e h1) (dpt_mono e h2)
end
theorem dps_len {F : Hp} : ∀ {vs : List V} {ds : List D}, DpAll K F vs ds → vs.length = ds.length
  | _, _, .nil => rfl
  | _, _, .cons _ h => by rw [List.length_cons, List.length_cons, dps_len h]
theorem dps_get {F : Hp} : ∀ {vs : List V} {ds : List D} {i : Nat} {v : V} {d : D}, DpAll K F vs ds → vs[i]? = some v → ds[i]? = some d → Dp K F v d
  | _, _, i, _, _, .nil, h, _ => by simp at h
  | _, _, 0, v, d, .cons r _, h, h' => by
    simp at h h'
    subst h; subst h'
    exact r
  | _, _, i + 1, v, d, .cons _ t, h, h' => dps_get (i := i) t (by simpa using h) (by simpa using h')
theorem dps_app {F : Hp} : ∀ {vs ws : List V} {ds es : List D}, DpAll K F vs ds → DpAll K F ws es → DpAll K F (vs ++ ws) (ds ++ es)
  | _, _, _, _, .nil, h => h
  | _, _, _, _, .cons a b, h => .cons a (dps_app b h)
theorem dps_one {F : Hp} {v : V} {d : D} (h : Dp K F v d) : DpAll K F [v] [d] := .cons h .nil
theorem dps_take {F : Hp} : ∀ {vs : List V} {ds : List D} (n : Nat), DpAll K F vs ds → DpAll K F (vs.take n) (ds.take n)
  | _, _, 0, _ => .nil
  | _, _, _ + 1, .nil => .nil
  | _, _, n + 1, .cons a b => .cons a (dps_take n b)
theorem dps_drop {F : Hp} : ∀ {vs : List V} {ds : List D} (n : Nat), DpAll K F vs ds → DpAll K F (vs.drop n) (ds.drop n)
  | _, _, 0, h => h
  | _, _, _ + 1, .nil => .nil
  | _, _, n + 1, .cons a b => dps_drop n b
theorem dps_set {F : Hp} {v : V} {d : D} (r : Dp K F v d) : ∀ {vs : List V} {ds : List D} (n : Nat), DpAll K F vs ds → DpAll K F (vs.set n v) (ds.set n d)
  | _, _, _, .nil => .nil
  | _, _, 0, .cons a b => .cons r b
  | _, _, n + 1, .cons a b => .cons a (dps_set r n b)
theorem dps_rev {F : Hp} : ∀ {vs : List V} {ds : List D}, DpAll K F vs ds → DpAll K F vs.reverse ds.reverse
  | _, _, .nil => .nil
  | _, _, .cons a b => by
    rw [List.reverse_cons,
                                                                                                                  List.reverse_cons]
    exact dps_app (dps_rev b) (dps_one a)
theorem dps_ints {F : Hp} : ∀ {vs : List V} {ns : List Int}, DpAll K F vs (ns.map PyData.int) → vs = ns.map V.int
  | _, [], .nil => rfl
  | _, _ :: _, .cons (.int _) h => by rw [dps_ints h]; rfl
theorem dps_bools {F : Hp} : ∀ {vs : List V} {ns : List Bool}, DpAll K F vs (ns.map PyData.bool) → vs = ns.map V.bl
  | _, [], .nil => rfl
  | _, _ :: _, .cons (.bl _) h => by rw [dps_bools h]; rfl

/-- the frozen part and the heap have grown, nothing else -/
structure Gr (F H F' H' : Hp) : Prop where
  ff : Same F F'
  fh : Same F' H'
  hh : Same H H'
  nw : ∀ a o, F' a = some o → F a = some o ∨ H a = none
theorem Gr.refl {F H : Hp} (s : Same F H) : Gr F H F H := ⟨.refl _, s, .refl _, fun _ _ h => .inl h⟩
theorem Gr.trans {F H F1 H1 F2 H2 : Hp} (a : Gr F H F1 H1) (b : Gr F1 H1 F2 H2) : Gr F H F2 H2 :=
  ⟨a.ff.trans b.ff, b.fh, a.hh.trans b.hh, fun x o h => (b.nw x o h).elim (fun q => a.nw x o q) fun q => .inr (a.hh.free q)⟩
theorem same_upd {H : Hp} {p : Addr} {o : HO} (h :
                                                                                                              H p = none) : Same H (upd H p o) := fun b x e => by
  rw [upd_ne (ne_of_none e h)]
  exact e
theorem same_upd2 {F H : Hp} {p : Addr} {o : HO} (s : Same F H) (h : F p = none) : Same F (upd H p o) := fun b x e => by
  rw [upd_ne (ne_of_none e h)]
  exact s _ _ e
/-- a new frozen thing -/
theorem Gr.laid {F H : Hp} {p : Addr} {o : HO} (s : Same F H) (h : H p = none) : Gr F H (upd F p o) (upd H p o) := by
  have hF : F p = none := s.free h
  refine ⟨same_upd hF, fun b x e => ?_, same_upd h, fun b x e => ?_⟩
  · by_cases hb : b = p
    · subst hb; rw [upd_same] at e ⊢; exact e
    · rw [upd_ne hb] at e ⊢; exact s _ _ e
  · by_cases hb : b = p
    · subst hb; exact .inr h
    · rw [upd_ne hb] at e; exact .inl e
/-- a new own thing -/
theorem Gr.made {F H : Hp} {p : Addr} {o : HO} (s : Same F H) (h : H p = none) : Gr F H F (upd H p o) :=
  ⟨.refl _, fun b x e => same_upd h _ _ (s _ _ e), same_upd h, fun _ _ e => .inl e⟩

structure Sim (K : PySem.W.Frag) (B : Bs) (σ : L2.St) (en : En) (F H : Hp) : Prop where
  len : σ.length = en.length
  sub : Same F H
  f0 : Same B.F F
  new : ∀ a o, F a = some o → B.F a = some o ∨ ¬ B.Z a
  kp : Same B.Kp H
  z : ∀ a, B.Z a → H a ≠ none
  val : ∀ (i : Nat) (d : D), en[i]? = some (.val d) → ∃ v, σ[i]? = some (some v) ∧ Dp K F v d
  own : ∀ (i : Nat) (b : Bool) (xs : List D), en[i]? = some (.own b xs) → ∃ a vs, σ[i]? = some (some (.ref a)) ∧ H a = some (.lst vs) ∧ F a = none ∧ DpAll K F vs xs ∧ B.Kp a = none ∧ (b = false → ¬ B.Z a) ∧ (b = true → B.io a)
  apart : ∀ (i j : Nat) (a : Addr), i ≠ j → isOwn en i → isOwn en j → σ[i]? = some (some (.ref a)) → σ[j]? = some (some (.ref a)) → False

variable {B : Bs} {σ : L2.St} {en : En} {F H F' H' : Hp}
theorem Sim.gr (S : Sim K B σ en F H) (g : Gr F H F' H') : Sim K B σ en F' H' where
  len := S.len
  sub := g.fh
  f0 := S.f0.trans g.ff
  new := fun a o h => (g.nw a o h).elim (S.new a o) fun q => .inr fun z => S.z a z q
  kp := S.kp.trans g.hh
  z := fun a z q => S.z a z (g.hh.free q)
  val := fun i d h => let ⟨v, h1, h2⟩ := S.val i d h; ⟨v, h1, dp_mono g.ff h2⟩
  own := fun i b xs h => by
    obtain ⟨a, vs, h1, h2, h3, h4, h5⟩ := S.own i b xs h
    refine ⟨a, vs, h1, g.hh _ _ h2, ?_, dps_mono g.ff h4, h5⟩
    cases q : F' a with
    | none => rfl
    | some o =>
      rcases g.nw a o q with e | e
      · rw [h3] at e; cases e
      · rw [h2] at e; cases e
  apart := S.apart

/-- a result: frozen, or a new own list -/
def Rl (K : PySem.W.Frag) (B : Bs) (σ : L2.St) (en : En) (F H : Hp) (v : V) : Sl → Prop
  | .val d => Dp K F v d
  | .own b xs => b = false ∧ ∃ a vs, v = .ref a ∧ H a = some (.lst vs) ∧ F a = none ∧ DpAll K F vs xs ∧ B.Kp a = none ∧ ¬ B.Z a ∧ ∀ i, isOwn en i → σ[i]? ≠ some (some (.ref a))
  | .no => False

/-- an own list that stands in no slot is frozen -/
theorem Sim.freeze {v : V} {b : Bool} {xs : List D} (S : Sim K B σ en F H) (r : Rl K B σ en F H v (.own b xs)) : ∃ F', Same F F' ∧ Sim K B σ en F' H ∧ Dp K F' v (.list xs) := by
  obtain ⟨rfl, a, vs, rfl, h2, h3, h4, h5, h6, h7⟩ := r
  have s1 : Same F (upd F a (.lst vs)) := same_upd h3
  refine ⟨upd F a (.lst vs), s1, ⟨S.len, fun c o e => ?_, S.f0.trans s1, fun c o e => ?_, S.kp, S.z, fun i d h => ?_, fun i b' ys h => ?_, S.apart⟩, .lst (.inl upd_same) (dps_mono s1 h4)⟩
  · by_cases hb : c = a
    · subst hb; rw [upd_same] at e; cases e; exact h2
    · rw [upd_ne hb] at e; exact S.sub _ _ e
  · by_cases hb : c = a
    · subst hb; exact .inr h6
    · rw [upd_ne hb] at e; exact S.new _ _ e
  · obtain ⟨v, e1, e2⟩ := S.val i d h
    exact ⟨v, e1, dp_mono s1 e2⟩
  · obtain ⟨a', vs', e1, e2, e3, e4, e5⟩ := S.own i b' ys h
    refine ⟨a', vs', e1, e2, ?_, dps_mono s1 e4, e5⟩
    rw [upd_ne]
    · exact e3
    · rintro rfl
      exact h7 i ⟨_, _, h⟩ e1

theorem getElem?_set' {α : Type} (l : List α) (i j : Nat) (x : α) : (l.set i x)[j]? = if i = j then (if i < l.length then some x else none) else l[j]? := by
  rw [List.getElem?_set]
theorem isOwn_set {en : En} {i j : Nat} {s : Sl} (h : isOwn (en.set i s) j) : (j = i ∧ ∃ b xs, s = .own b xs) ∨ (j ≠ i ∧ isOwn en j) := by
  obtain ⟨b, xs, h⟩ := h
  rw [List.getElem?_set] at h
  by_cases e : i = j
  · subst e
    rw [if_pos rfl] at h
    split at h
    · exact .inl ⟨rfl, b, xs, Option.some.inj h⟩
    · cases h
  · rw [if_neg e] at h
    exact .inr ⟨fun z => e z.symm, b, xs, h⟩
theorem isOwn_out {en : En} {i : Nat} {b : Bool} {xs : List D} (h : en[i]? = some (.own b xs)) : isOwn en i := ⟨b, xs, h⟩

/-- a slot's own list is frozen where it is read -/
theorem Sim.freezeSlot {i : Nat} {xs : List D} (S : Sim K B σ en F H) (h : en[i]? = some (.own false xs)) :
    ∃ F' v, Same F F' ∧ Sim K B σ (en.set i (.val (.list xs))) F' H ∧ σ[i]? = some (some v) ∧ Dp K F' v (.list xs) := by
  obtain ⟨a, vs, h1, h2, h3, h4, h5, h6, _⟩ := S.own i _ xs h
  have s1 : Same F (upd F a (.lst vs)) := same_upd h3
  have dp : Dp K (upd F a (.lst vs)) (.ref a) (.list xs) := .lst (.inl upd_same) (dps_mono s1 h4)
  refine ⟨upd F a (.lst vs), .ref a, s1, ⟨by rw [List.length_set]; exact S.len, fun c o e => ?_, S.f0.trans s1, fun c o e => ?_, S.kp, S.z, fun j d hj => ?_, fun j b' ys hj => ?_, fun j k c hjk hj hk => ?_⟩, h1, dp⟩
  · by_cases hb : c = a
    · subst hb; rw [upd_same] at e; cases e; exact h2
    · rw [upd_ne hb] at e; exact S.sub _ _ e
  · by_cases hb : c = a
    · subst hb; exact .inr (h6 rfl)
    · rw [upd_ne hb] at e; exact S.new _ _ e
  · rw [List.getElem?_set] at hj
    by_cases e : i = j
    · subst e
      rw [if_pos rfl] at hj
      split at hj
      · cases hj; exact ⟨_, h1, dp⟩
      · cases hj
    · rw [if_neg e] at hj
      obtain ⟨v, e1, e2⟩ := S.val j d hj
      exact ⟨v, e1, dp_mono s1 e2⟩
  · rw [List.getElem?_set] at hj
    by_cases e : i = j
    · subst e
      rw [if_pos rfl] at hj
      split at hj
      · cases hj
      · cases hj
    · rw [if_neg e] at hj
      obtain ⟨a', vs', e1, e2, e3, e4, e5⟩ := S.own j b' ys hj
      refine ⟨a', vs', e1, e2, ?_, dps_mono s1 e4, e5⟩
      rw [upd_ne]
      · exact e3
      · rintro rfl
        exact S.apart i j _ e (isOwn_out h) (isOwn_out hj) h1 e1
  · rcases isOwn_set hj with ⟨_, _, _, z⟩ | ⟨_, hj⟩
    · cases z
    · rcases isOwn_set hk with ⟨_, _, _, z⟩ | ⟨_, hk⟩
      · cases z
      · exact S.apart j k c hjk hj hk

/-- a slot is stored -/
theorem Sim.store {i : Nat} {v : V} {s : Sl} (S : Sim K B σ en F H) (r : Rl K B σ en F H v s) : Sim K B (σ.set i (some v)) (en.set i s) F H := by
  refine ⟨by rw [List.length_set, List.length_set]; exact S.len, S.sub, S.f0, S.new, S.kp, S.z, fun j d hj => ?_, fun j b' ys hj => ?_, fun j k c hjk hj hk e1 e2 => ?_⟩
  · rw [List.getElem?_set] at hj
    by_cases e : i = j
    · subst e
      rw [if_pos rfl] at hj
      split at hj
      · rename_i hlt
        cases hj
        exact ⟨v, by rw [List.getElem?_set, if_pos rfl, if_pos (by rw [S.len]; exact hlt)], r⟩
      · cases hj
    · rw [if_neg e] at hj
      obtain ⟨w, e1, e2⟩ := S.val j d hj
      exact ⟨w, by rw [List.getElem?_set_ne e]; exact e1, e2⟩
  · rw [List.getElem?_set] at hj
    by_cases e : i = j
    · subst e
      rw [if_pos rfl] at hj
      split at hj
      · rename_i hlt
        cases hj
        obtain ⟨rfl, a, vs, rfl, h2, h3, h4, h5, h6, h7⟩ := r
        exact ⟨a, vs, by rw [List.getElem?_set, if_pos rfl, if_pos (by rw [S.len]; exact hlt)], h2, h3, h4, h5, fun _ => h6, fun z => by cases z⟩
      · cases hj
    · rw [if_neg e] at hj
      obtain ⟨a, vs, e1, e2⟩ := S.own j b' ys hj
      exact ⟨a, vs, by rw [List.getElem?_set_ne e]; exact e1, e2⟩
  · have key : ∀ (j k : Nat), j = i → k ≠ i → isOwn (en.set i s) j → isOwn en k → (σ.set i (some v))[j]? = some (some (.ref c)) → (σ.set i (some v))[k]? = some (some (.ref c)) → False := by
      clear hj hk e1 e2 hjk
      rintro j' k' rfl hki oj ok e1 e2
      rcases isOwn_set oj with ⟨_, b, xs, rfl⟩ | ⟨q, _⟩
      · obtain ⟨rfl, a, vs, rfl, h2, h3, h4, h5, h6, h7⟩ := r
        rw [List.getElem?_set, if_pos rfl] at e1
        split at e1
        · cases e1
          rw [List.getElem?_set_ne (Ne.symm hki)] at e2
          exact h7 k' ok e2
        · cases e1
      · exact q rfl
    by_cases hji : j = i
    · by_cases hki : k = i
      · exact hjk (hji.trans hki.symm)
      · rcases isOwn_set hk with ⟨q, _⟩ | ⟨_, hk'⟩
        · exact hki q
        · exact key j k hji hki hj hk' e1 e2
    · by_cases hki : k = i
      · rcases isOwn_set hj with ⟨q, _⟩ | ⟨_, hj'⟩
        · exact hji q
        · exact key k j hki hji hk hj' e2 e1
      · rcases isOwn_set hj with ⟨q, _⟩ | ⟨_, hj'⟩
        · exact hji q
        · rcases isOwn_set hk with ⟨q, _⟩ | ⟨_, hk'⟩
          · exact hki q
          · rw [List.getElem?_set_ne (Ne.symm hji)] at e1
            rw [List.getElem?_set_ne (Ne.symm hki)] at e2
            exact S.apart j k c hjk hj' hk' e1 e2

/-- a slot's own list is changed -/
theorem Sim.change {i : Nat} {b : Bool} {xs ys : List D} {a : Addr} {vs ws : List V} (S : Sim K B σ en F H) (h : en[i]? = some (.own b xs)) (h1 : σ[i]? = some (some (.ref a))) (h2 : H a = some (.lst vs)) (h3 : DpAll K F ws ys) :
    Sim K B σ (en.set i (.own b ys)) F (upd H a (.lst ws)) := by
  obtain ⟨a', vs', e1, e2, e3, e4, e5, e6, e7⟩ := S.own i b xs h
  rw [h1] at e1
  cases e1
  refine ⟨by rw [List.length_set]; exact S.len, same_upd2 S.sub e3, S.f0, S.new, same_upd2 S.kp e5, fun c z q => ?_, fun j d hj => ?_, fun j b' zs hj => ?_, fun j k c hjk hj hk => ?_⟩
  · by_cases hb : c = a
    · subst hb; rw [upd_same] at q; cases q
    · rw [upd_ne hb] at q; exact S.z c z q
  · rw [List.getElem?_set] at hj
    by_cases e : i = j
    · subst e
      rw [if_pos rfl] at hj
      split at hj
      · cases hj
      · cases hj
    · rw [if_neg e] at hj
      exact S.val j d hj
  · rw [List.getElem?_set] at hj
    by_cases e : i = j
    · subst e
      rw [if_pos rfl] at hj
      split at hj
      · cases hj
        exact ⟨a, ws, h1, upd_same, e3, h3, e5, e6, e7⟩
      · cases hj
    · rw [if_neg e] at hj
      obtain ⟨c, us, q1, q2, q3⟩ := S.own j b' zs hj
      refine ⟨c, us, q1, ?_, q3⟩
      rw [upd_ne]
      · exact q2
      · rintro rfl
        exact S.apart i j _ e (isOwn_out h) (isOwn_out hj) h1 q1
  · have hj' : isOwn en j := by
      rcases isOwn_set hj with ⟨q, _⟩ | ⟨_, q⟩
      · rw [q]; exact isOwn_out h
      · exact q
    have hk' : isOwn en k := by
      rcases isOwn_set hk with ⟨q, _⟩ | ⟨_, q⟩
      · rw [q]; exact isOwn_out h
      · exact q
    exact S.apart j k c hjk hj' hk'
end
end Mv

namespace Mv
open L2 PySem.Spec PySem PyProof.Rows

/-- the class of an exception by name, its fields -/
def RX (K : PySem.W.Frag) (mg : Str → Option Value) (F H : Hp) (c : Str) (fs : List (Str × D)) (cls : Value) (d : Option Addr) : Prop :=
  mg c = some cls ∧ (fs = [] ∨ ∃ dx vs, d = some dx ∧ H dx = some (.xd vs) ∧ vs.map (·.1) = fs.map (·.1) ∧ DpAll K F (vs.map (·.2)) (fs.map (·.2)))

section
variable {K : PySem.W.Frag} {mg : Str → Option Value} {B : Bs} {W : WX} {σ : L2.St} {F F1 H : Hp} {α β : Type}
def Post (K : PySem.W.Frag) (mg : Str → Option Value) (B : Bs) (W : WX) (σ : L2.St) (F : Hp) (k : α → En → Hp → Hp → Prop) : R α → Prop
  | .ok a en' => ∀ F' H', Sim K B σ en' F' H' → Same F F' → k a en' F' H'
  | .exc c fs en' => ∀ F' H' cls d, Sim K B σ en' F' H' → Same F F' → RX K mg F' H' c fs cls d → W cls d σ H'
  | .bad => False
theorem Post.up {k : α → En → Hp → Hp → Prop} {r : R α} (p : Post K mg B W σ F k r) (s : Same F F1) : Post K mg B W σ F1 k r := by
  cases r with
  | ok a e => exact fun F' H' S q => p F' H' S (s.trans q)
  | exc c fs e => exact fun F' H' cls d S q => p F' H' cls d S (s.trans q)
  | bad => exact p
theorem Post.bind {k : β → En → Hp → Hp → Prop} {r : R α} {g : α → En → R β} (p : Post K mg B W σ F k (r.bind g)) :
    Post K mg B W σ F (fun a en1 F1 _ => Post K mg B W σ F1 k (g a en1)) r := by
  cases r with
  | ok a e => exact fun F' H' S q => Post.up p q
  | exc c fs e => exact p
  | bad => exact p
theorem Post.imp {k k' : α → En → Hp → Hp → Prop} {r : R α} (p : Post K mg B W σ F k r) (h : ∀ a en' F' H', Sim K B σ en' F' H' → Same F F' → k a en' F' H' → k' a en' F' H') : Post K mg B W σ F k' r := by
  cases r with
  | ok a e => exact fun F' H' S q => h a e F' H' S q (p F' H' S q)
  | exc c fs e => exact p
  | bad => exact p

def tV (K : PySem.W.Frag) (mg : Str → Option Value) (B : Bs) (W : WX) (f : M Sl) : TE := fun σ H Q => ∃ F en, Sim K B σ en F H ∧ Post K mg B W σ F (fun r en' F' H' => ∀ v, Rl K B σ en' F' H' v r → Q v H') (f en)
def tD (K : PySem.W.Frag) (mg : Str → Option Value) (B : Bs) (W : WX) (f : M D) : TE := fun σ H Q => ∃ F en, Sim K B σ en F H ∧ Post K mg B W σ F (fun d _ F' H' => ∀ v, Dp K F' v d → Q v H') (f en)
def tDs (K : PySem.W.Frag) (mg : Str → Option Value) (B : Bs) (W : WX) (f : M (List D)) : TA := fun σ H Q => ∃ F en, Sim K B σ en F H ∧ Post K mg B W σ F (fun ds _ F' H' => ∀ vs, DpAll K F' vs ds → Q vs H') (f en)
def tBl (K : PySem.W.Frag) (mg : Str → Option Value) (B : Bs) (W : WX) (f : M Bool) : TT := fun σ H Q => ∃ F en, Sim K B σ en F H ∧ Post K mg B W σ F (fun b _ _ H' => Q b H') (f en)
end

def VE (X : Cx) (W : WX) (e : Expr) (f : M Sl) : Prop := ∀ B, PE X e (tV X.K X.mg B W f)
def VD (X : Cx) (W : WX) (e : Expr) (f : M D) : Prop := ∀ B, PE X e (tD X.K X.mg B W f)
def VDs (X : Cx) (W : WX) (es : List Expr) (f : M (List D)) : Prop := ∀ B, PA X es (tDs X.K X.mg B W f)
def VB (X : Cx) (W : WX) (e : Expr) (f : M Bool) : Prop := ∀ B, PT X e (tBl X.K X.mg B W f)

section
variable {X : Cx} {e : Expr} {es : List Expr}
theorem peWk {t t' : TE} (h : PE X e t) (w : ∀ σ H Q, t' σ H Q → t σ H Q) : PE X e t' := ⟨fun pins s σ H Q I q => h.run pins s σ H Q I (w _ _ _ q)⟩
theorem ptWk {t t' : TT} (h : PT X e t) (w : ∀ σ H Q, t' σ H Q → t σ H Q) : PT X e t' := ⟨fun pins s σ H Q I q => h.run pins s σ H Q I (w _ _ _ q)⟩
theorem pwWk {t t' : TT} (h : PW X e t) (w : ∀ σ H Q, t' σ H Q → t σ H Q) : PW X e t' := ⟨fun wh pins s σ H Q I q => h.run wh pins s σ H Q I (w _ _ _ q)⟩
theorem paWk {t t' : TA} (h : PA X es t) (w : ∀ σ H Q, t' σ H Q → t σ H Q) : PA X es t' := ⟨fun pos pins s σ H Q I q => h.run pos pins s σ H Q I (w _ _ _ q)⟩
theorem psWk {st : Stmt} {t t' : TS} (h : PS X st t) (w : ∀ D σ H, t' D σ H → t D σ H) : PS X st t' := ⟨fun pins s σ H D I q => h.run pins s σ H D I (w _ _ _ q)⟩
theorem pssWk {st : List Stmt} {t t' : TS} (h : PSs X st t) (w : ∀ D σ H, t' D σ H → t D σ H) : PSs X st t' := ⟨fun pins s σ H D I q => h.run pins s σ H D I (w _ _ _ q)⟩
theorem piWk {tg : Expr} {t t' : TI} (h : PI X tg e t) (w : ∀ σ H Q, t' σ H Q → t σ H Q) : PI X tg e t' := ⟨fun pins s σ H Q I q => h.run pins s σ H Q I (w _ _ _ q)⟩
end

/-- an own list that is handed on is frozen -/
def frzS : Sl → En → R D
  | .val d, e => .ok d e
  | .own false xs, e => .ok (.list xs) e
  | _, _ => .bad
@[simp] theorem frzS_val (d : D) (e : En) : frzS (.val d) e = .ok d e := rfl
@[simp] theorem frzS_own (xs : List D) (e : En) : frzS (.own false xs) e = .ok (.list xs) e := rfl
def vD (f : M Sl) : M D := fun en => (f en).bind frzS
section
variable {X : Cx} {W : WX} {e : Expr} {es : List Expr} {f : M Sl} {pos : Pos}
theorem VE.d (h : VE X W e f) : VD X W e (vD f) := fun B => peWk (h B) fun σ H Q ⟨F, en, S, p⟩ => by
  refine ⟨F, en, S, (Post.bind p).imp fun r en1 F1 H1 S1 s1 q v rv => ?_⟩
  cases r with
  | no => exact rv.elim
  | val d => exact q F1 H1 S1 (.refl _) v rv
  | own b xs =>
    obtain ⟨F2, s2, S2, dv⟩ := S1.freeze rv
    obtain ⟨rfl, _⟩ := rv
    exact q F2 H1 S2 s2 v dv
theorem VD.v {g : M D} (h : VD X W e g) : VE X W e (fun en => (g en).bind fun d e => .ok (.val d) e) := fun B => peWk (h B) fun σ H Q ⟨F, en, S, p⟩ =>
  ⟨F, en, S, (Post.bind p).imp fun d en1 F1 H1 S1 s1 q v rv => q F1 H1 S1 (.refl _) v rv⟩

/-! ### names, constants -/
def vVar (i : Nat) : M Sl := fun en => match en[i]? with
  | some (.val d) => .ok (.val d) en
  | some (.own false xs) => .ok (.val (.list xs)) (en.set i (.val (.list xs)))
  | _ => .bad
theorem ve_var (i : Nat) {x : Str} (hN : X.N[i]? = some x := by rfl) (hv : Vis X.env.scope x := by first | exact Or.inl rfl | exact Or.inr (Or.inl rfl) | exact Or.inr (Or.inr rfl)) (hd : (x == ("__debug__" : Str)) = false := by decide)
    (hcd : (x == ("__classdict__" : Str)) = false := by decide) : VE X W (.Name x pos) (vVar i) := fun B => peWk (pe_var hN hv hd hcd) fun σ H Q ⟨F, en, S, p⟩ => by
  unfold vVar at p
  split at p
  · rename_i d h
    obtain ⟨v, h1, h2⟩ := S.val i d h
    exact ⟨v, h1, p F H S (.refl _) v h2⟩
  · rename_i xs h
    obtain ⟨F', v, s1, S1, h1, h2⟩ := S.freezeSlot h
    exact ⟨v, h1, p F' H S1 s1 v h2⟩
  · exact p.elim
def vC (d : D) : M Sl := fun en => .ok (.val d) en
theorem ve_c {v : V} {d : D} (h : PE X e (tC v)) (hd : ∀ F, Dp X.K F v d) : VE X W e (vC d) := fun B => peWk h fun σ H Q ⟨F, en, S, p⟩ => p F H S (.refl _) v (hd F)
theorem ve_int {i j} : VE X W (.Constant (.int i) j pos) (vC (.int i)) := ve_c pe_int fun _ => .int i
theorem ve_bl {b j} : VE X W (.Constant (.bool b) j pos) (vC (.bool b)) := ve_c pe_bl fun _ => .bl b
theorem ve_non {j} : VE X W (.Constant .none j pos) (vC .none) := ve_c pe_non fun _ => .non
theorem ve_str {x j} : VE X W (.Constant (.str x) j pos) (vC (.str x)) := ve_c pe_str fun _ => .str x
/-- a constant of the module -/
theorem ve_glob {x : Str} {v : V} {u : Value} {d : D} (hg : Gl X x) (hm : X.mg x = some u) (r : RelV v u) (dv : ∀ F, Dp X.K F v d) (hd : (x == ("__debug__" : Str)) = false := by decide) : VE X W (.Name x pos) (vC d) := ve_c (pe_glob hg hm r hd) dv

/-! ### lists of arguments -/
def vNil : M (List D) := fun en => .ok [] en
def vCons (f : M Sl) (g : M (List D)) : M (List D) := fun en => (vD f en).bind fun d e => (g e).bind fun ds e2 => .ok (d :: ds) e2
theorem vds_nil : VDs X W [] vNil := fun B => paWk pa_nil fun σ H Q ⟨F, en, S, p⟩ => p F H S (.refl _) [] .nil
theorem vds_cons {g : M (List D)} (h : VE X W e f) (hr : VDs X W es g) (hs : starEach (e :: es) X.env = (false, eval e X.env) :: starEach es X.env := by rfl) : VDs X W (e :: es) (vCons f g) := fun B =>
  paWk (pa_cons (h.d B) (hr B) hs) fun σ H Q ⟨F, en, S, p⟩ => by
    refine ⟨F, en, S, (Post.bind p).imp fun d en1 F1 H1 S1 s1 q v rv => ?_⟩
    refine ⟨F1, en1, S1, (Post.bind q).imp fun ds en2 F2 H2 S2 s2 q2 vs rvs => ?_⟩
    exact q2 F2 H2 S2 (.refl _) _ (.cons (dp_mono s2 rv) rvs)
abbrev LIM : Nat := 1000000
theorem lim_line {n : Nat} (h : n ≤ LIM) : n ≤ sizeLine := by rw [sizeLine_eq]; unfold LIM at h; omega
theorem lim_lt {n : Nat} (h : n ≤ LIM) : n < sizeLine := by rw [sizeLine_eq]; unfold LIM at h; omega

/-- what a step of the machine gives: frozen, or a new own list -/
def RlF (K : PySem.W.Frag) (F' H H' : Hp) (v : V) : Sl → Prop
  | .val d => Dp K F' v d
  | .own b xs => b = false ∧ ∃ a vs, v = .ref a ∧ H' a = some (.lst vs) ∧ F' a = none ∧ DpAll K F' vs xs ∧ H a = none
  | .no => False
def Kd (K : PySem.W.Frag) (F H : Hp) (Q : VK) : Option Sl → Prop
  | some r => ∀ F' H' v, Gr F H F' H' → RlF K F' H H' v r → Q v H'
  | none => False
theorem Sim.res {K : PySem.W.Frag} {B : Bs} {σ : L2.St} {en : En} {F H F' H' : Hp} {v : V} {r : Sl} (S : Sim K B σ en F H) (h : RlF K F' H H' v r) : Rl K B σ en F' H' v r := by
  cases r with
  | no => exact h
  | val d => exact h
  | own b xs =>
    obtain ⟨rfl, a, vs, rfl, h1, h2, h3, h4⟩ := h
    refine ⟨rfl, a, vs, rfl, h1, h2, h3, S.kp.free h4, fun z => S.z a z h4, fun i ho e => ?_⟩
    obtain ⟨b, ys, ho⟩ := ho
    obtain ⟨a', vs', e1, e2, _⟩ := S.own i b ys ho
    rw [e] at e1
    cases e1
    rw [h4] at e2
    cases e2
/-- an optional result, in a state -/
def opt (o : Option Sl) (en : En) : R Sl := match o with
  | some r => .ok r en
  | none => .bad
@[simp] theorem opt_some (r : Sl) (en : En) : opt (some r) en = .ok r en := rfl
@[simp] theorem opt_none (en : En) : opt none en = .bad := rfl
theorem Post.opt {K : PySem.W.Frag} {mg : Str → Option Value} {B : Bs} {σ : L2.St} {en : En} {F H : Hp} {Q : VK} {o : Option Sl} (S : Sim K B σ en F H) (p : Post K mg B W σ F (fun r en' F' H' => ∀ v, Rl K B σ en' F' H' v r → Q v H') (Mv.opt o en)) : Kd K F H Q o := by
  cases o with
  | none => exact p.elim
  | some r => exact fun F' H' v g h => p F' H' (S.gr g) g.ff v (S.res h)
theorem Kd.val {K : PySem.W.Frag} {F H : Hp} {Q : VK} {d : D} {v : V} (s : Same F H) (k : Kd K F H Q (some (.val d))) (h : Dp K F v d) : Q v H := k F H v (.refl s) h
theorem Kd.tup {K : PySem.W.Frag} {F H : Hp} {Q : VK} {vs : List V} {ds : List D} (s : Same F H) (k : Kd K F H Q (some (.val (.tuple ds)))) (h : DpAll K F vs ds) : ∀ p, H p = none → Q (.ref p) (upd H p (.tup vs)) := fun p hp =>
  k (upd F p (.tup vs)) (upd H p (.tup vs)) _ (Gr.laid s hp) (.tup (.inl (.inl upd_same)) (dps_mono (same_upd (s.free hp)) h))
theorem Kd.lst {K : PySem.W.Frag} {F H : Hp} {Q : VK} {vs : List V} {ds : List D} (s : Same F H) (k : Kd K F H Q (some (.own false ds))) (h : DpAll K F vs ds) : ∀ p, H p = none → Q (.ref p) (upd H p (.lst vs)) := fun p hp =>
  k F (upd H p (.lst vs)) _ (Gr.made s hp) ⟨rfl, p, vs, rfl, upd_same, s.free hp, h, hp⟩

/-! ### displays -/
def vTup (g : M (List D)) : M Sl := fun en => (g en).bind fun ds e => opt (if ds.length ≤ LIM then some (.val (.tuple ds)) else none) e
def vLst (g : M (List D)) : M Sl := fun en => (g en).bind fun ds e => opt (if ds.length ≤ LIM then some (.own false ds) else none) e
theorem ve_tup {g : M (List D)} {k : Nat} (h : VDs X W es g) : VE X W (.Tuple es k pos) (vTup g) := fun B => peWk (pe_tup (h B)) fun σ H Q ⟨F, en, S, p⟩ => by
  refine ⟨F, en, S, (Post.bind p).imp fun ds en1 F1 H1 S1 s1 q vs rvs => ?_⟩
  have k := Post.opt S1 q
  by_cases hl : ds.length ≤ LIM
  · rw [if_pos hl] at k
    exact ⟨by rw [dps_len rvs]; exact lim_line hl, Kd.tup S1.sub k rvs⟩
  · rw [if_neg hl] at k
    exact k.elim
theorem ve_lst {g : M (List D)} (h : VDs X W es g) : VE X W (.List es pos) (vLst g) := fun B => peWk (pe_lst (h B)) fun σ H Q ⟨F, en, S, p⟩ => by
  refine ⟨F, en, S, (Post.bind p).imp fun ds en1 F1 H1 S1 s1 q vs rvs => ?_⟩
  have k := Post.opt S1 q
  by_cases hl : ds.length ≤ LIM
  · rw [if_pos hl] at k
    exact ⟨by rw [dps_len rvs]; exact lim_line hl, Kd.lst S1.sub k rvs⟩
  · rw [if_neg hl] at k
    exact k.elim

/-! ### operators by values -/
def OV (X : Cx) (f : Value → Value → Sem Value) (o : D → D → Option Sl) : Prop := OpR X f fun x y H Q => ∃ F a b, Same F H ∧ Dp X.K F x a ∧ Dp X.K F y b ∧ Kd X.K F H Q (o a b)
def UV (X : Cx) (f : Value → Sem Value) (o : D → Option Sl) : Prop := UnR X f fun x H Q => ∃ F a, Same F H ∧ Dp X.K F x a ∧ Kd X.K F H Q (o a)
def CV (X : Cx) (f : Value) (o : List D → Option Sl) : Prop := CallR X f fun xs H Q => ∃ F as, Same F H ∧ DpAll X.K F xs as ∧ Kd X.K F H Q (o as)
def MV (X : Cx) (id : String) (o : D → List D → Option Sl) : Prop := MtR X id fun x xs H Q => ∃ F a as, Same F H ∧ Dp X.K F x a ∧ DpAll X.K F xs as ∧ Kd X.K F H Q (o a as)
def IV (X : Cx) (o : D → D → Option Sl) : Prop := IxR X fun x y H Q => ∃ F a b, Same F H ∧ Dp X.K F x a ∧ Dp X.K F y b ∧ Kd X.K F H Q (o a b)
def SV (X : Cx) (o : D → Option Int → Option Int → Option Sl) : Prop := SlR X fun x lo hi H Q => ∃ F a, Same F H ∧ Dp X.K F x a ∧ Kd X.K F H Q (o a lo hi)
def vOp (o : D → D → Option Sl) (f g : M Sl) : M Sl := fun en => (vD f en).bind fun x e => (vD g e).bind fun y e2 => opt (o x y) e2
def vUn (o : D → Option Sl) (f : M Sl) : M Sl := fun en => (vD f en).bind fun x e => opt (o x) e
def vCb (o : List D → Option Sl) (g : M (List D)) : M Sl := fun en => (g en).bind fun xs e => opt (o xs) e
variable {a b : Expr} {fa fb : M Sl}
theorem rd_op {r : R2} {o : D → D → Option Sl} {B : Bs} (hr : r = fun x y H Q => ∃ F a b, Same F H ∧ Dp X.K F x a ∧ Dp X.K F y b ∧ Kd X.K F H Q (o a b)) :
    ∀ σ H Q, tV X.K X.mg B W (vOp o fa fb) σ H Q → tOp r (tD X.K X.mg B W (vD fa)) (tD X.K X.mg B W (vD fb)) σ H Q := fun σ H Q ⟨F, en, S, p⟩ => by
  refine ⟨F, en, S, (Post.bind p).imp fun d en1 F1 H1 S1 s1 q v rv => ?_⟩
  refine ⟨F1, en1, S1, (Post.bind q).imp fun d2 en2 F2 H2 S2 s2 q2 v2 rv2 => ?_⟩
  rw [hr]
  exact ⟨F2, d, d2, S2.sub, dp_mono s2 rv, rv2, Post.opt S2 q2⟩
theorem ve_bin {op : Operator} {o : D → D → Option Sl} (ho : OV X (binaryOp op) o) (ha : VE X W a fa) (hb : VE X W b fb) : VE X W (.BinOp a op b pos) (vOp o fa fb) := fun B =>
  peWk (pe_op ho (ha.d B) (hb.d B)) (rd_op rfl)
theorem ve_cmp {op : CmpOp} {o : D → D → Option Sl} (ho : OV X (compareOp op) o) (ha : VE X W a fa) (hb : VE X W b fb) (hm : behindInMarks op b = false) : VE X W (.Compare a [op] [b] pos) (vOp o fa fb) := fun B =>
  peWk (pe_cmpR ho (ha.d B) (hb.d B) hm) (rd_op rfl)
theorem ve_ix {o : D → D → Option Sl} (ho : IV X o) (ha : VE X W a fa) (hb : VE X W b fb) (hs : PlainIx b := by exact fun _ _ => rfl) : VE X W (.Subscript a b pos) (vOp o fa fb) := fun B =>
  peWk (pe_ix ho (ha.d B) (hb.d B) hs) (rd_op rfl)
theorem ve_un {op : UnaryOp} {o : D → Option Sl} (ho : UV X (unaryOp op) o) (ha : VE X W a fa) : VE X W (.UnaryOp op a pos) (vUn o fa) := fun B =>
  peWk (pe_un ho (ha.d B)) fun σ H Q ⟨F, en, S, p⟩ => by
    refine ⟨F, en, S, (Post.bind p).imp fun d en1 F1 H1 S1 s1 q v rv => ?_⟩
    exact ⟨F1, d, S1.sub, rv, Post.opt S1 q⟩

/-! ### truth of bools -/
def bOf : D → En → R Bool
  | .bool b, e => .ok b e
  | _, _ => .bad
@[simp] theorem bOf_bool (b : Bool) (e : En) : bOf (.bool b) e = .ok b e := rfl
def vB (f : M Sl) : M Bool := fun en => (vD f en).bind bOf
theorem vb_cmp {op : CmpOp} {o : D → D → Option Sl} (ho : OV X (compareOp op) o) (ha : VE X W a fa) (hb : VE X W b fb) (hm : behindInMarks op b = false) : VB X W (.Compare a [op] [b] pos) (vB (vOp o fa fb)) := fun B =>
  ptWk (pt_cmpR ho (ha.d B) (hb.d B) hm) fun σ H Q ⟨F, en, S, p⟩ => by
    refine rd_op (o := o) rfl σ H _ ⟨F, en, S, ?_⟩
    have p2 : Post X.K X.mg B W σ F (fun b _ _ H' => Q b H') ((vOp o fa fb en).bind fun r e => (frzS r e).bind bOf) := by
      have e : vB (vOp o fa fb) en = (vOp o fa fb en).bind fun r e => (frzS r e).bind bOf := by
        unfold vB vD
        cases vOp o fa fb en <;> rfl
      rw [← e]; exact p
    refine (Post.bind p2).imp fun r en1 F1 H1 S1 s1 q v rv => ?_
    cases r with
    | no => exact rv.elim
    | own b xs =>
      obtain ⟨rfl, _⟩ := rv
      exact q.elim
    | val d =>
      cases d with
      | bool k =>
        cases rv
        exact ⟨k, rfl, q F1 H1 S1 (.refl _)⟩
      | _ => exact q.elim
theorem vb_val (h : VE X W e f) (he : ∀ whole, isTrue e X.env whole = (do let v ← whole; standAt e.pos; holding [v] (truthy v)) := by intro _; rfl) : VB X W e (vB f) := fun B =>
  ptWk (pt_val (h.d B) he) fun σ H Q ⟨F, en, S, p⟩ => by
    refine ⟨F, en, S, (Post.bind p).imp fun d en1 F1 H1 S1 s1 q v rv => ?_⟩
    cases d with
    | bool k =>
      cases rv
      exact ⟨k, rfl, q F1 H1 S1 (.refl _)⟩
    | _ => exact q.elim
/-- and, or, not, if as tests -/
def bAnd (f g : M Bool) : M Bool := fun en => (f en).bind fun b e => if b = true then g e else .ok false e
def bOr (f g : M Bool) : M Bool := fun en => (f en).bind fun b e => if b = true then .ok true e else g e
def bNot (f : M Bool) : M Bool := fun en => (f en).bind fun b e => .ok (!b) e
def VW (X : Cx) (W : WX) (e : Expr) (f : M Bool) : Prop := ∀ B, PW X e (tBl X.K X.mg B W f)
theorem VW.vb {f : M Bool} (h : VW X W e f) : VB X W e f := fun B => (h B).pt
variable {ga gb : M Bool} {rest : List Expr}
theorem vw_and1 (h : VB X W a ga) : VW X W (.BoolOp .And [a] pos) ga := fun B => pw_and1 (h B)
theorem vw_or1 (h : VB X W a ga) : VW X W (.BoolOp .Or [a] pos) ga := fun B => pw_or1 (h B)
theorem vw_and (h : VB X W a ga) (h2 : VW X W (.BoolOp .And (b :: rest) pos) gb) : VW X W (.BoolOp .And (a :: b :: rest) pos) (bAnd ga gb) := fun B =>
  pwWk (pw_and (h B) (h2 B)) fun σ H Q ⟨F, en, S, p⟩ => by
    refine ⟨F, en, S, (Post.bind p).imp fun k en1 F1 H1 S1 s1 q => ?_⟩
    cases k with
    | true => rw [if_pos rfl] at q ⊢; exact ⟨F1, en1, S1, q⟩
    | false => rw [if_neg Bool.false_ne_true] at q ⊢; exact q F1 H1 S1 (.refl _)
theorem vw_or (h : VB X W a ga) (h2 : VW X W (.BoolOp .Or (b :: rest) pos) gb) : VW X W (.BoolOp .Or (a :: b :: rest) pos) (bOr ga gb) := fun B =>
  pwWk (pw_or (h B) (h2 B)) fun σ H Q ⟨F, en, S, p⟩ => by
    refine ⟨F, en, S, (Post.bind p).imp fun k en1 F1 H1 S1 s1 q => ?_⟩
    cases k with
    | true => rw [if_pos rfl] at q ⊢; exact q F1 H1 S1 (.refl _)
    | false => rw [if_neg Bool.false_ne_true] at q ⊢; exact ⟨F1, en1, S1, q⟩
theorem vb_not (h : VB X W a ga) : VB X W (.UnaryOp .Not a pos) (bNot ga) := fun B =>
  ptWk (pt_not (h B)) fun σ H Q ⟨F, en, S, p⟩ => ⟨F, en, S, (Post.bind p).imp fun k en1 F1 H1 S1 s1 q => q F1 H1 S1 (.refl _)⟩
/-- .. as values -/
def vAnd (f g : M Sl) : M Sl := fun en => (vB f en).bind fun b e => if b = true then g e else .ok (.val (.bool false)) e
def vOr (f g : M Sl) : M Sl := fun en => (vB f en).bind fun b e => if b = true then .ok (.val (.bool true)) e else g e
def vNot (f : M Sl) : M Sl := fun en => (vB f en).bind fun b e => .ok (.val (.bool (!b))) e
def vIf (c : M Bool) (f g : M Sl) : M Sl := fun en => (c en).bind fun b e => if b = true then f e else g e
theorem Post.vb {B : Bs} {σ : L2.St} {F : Hp} {en : En} {α : Type} {k : α → En → Hp → Hp → Prop} {g : Bool → En → R α} (p : Post X.K X.mg B W σ F k ((vB f en).bind g)) :
    Post X.K X.mg B W σ F (fun d en1 F1 _ => ∃ c, d = PyData.bool c ∧ Post X.K X.mg B W σ F1 k (g c en1)) (vD f en) := by
  have e : (vB f en).bind g = (vD f en).bind fun d e => (bOf d e).bind g := by
    unfold vB
    cases vD f en <;> rfl
  rw [e] at p
  refine (Post.bind p).imp fun d en1 F1 H1 S1 s1 q => ?_
  cases d with
  | bool c => exact ⟨c, rfl, q⟩
  | _ => exact q.elim
theorem ve_one {op} (h : VE X W a fa) : VE X W (.BoolOp op [a] pos) fa := fun B => pe_one (h B)
theorem ve_and (h : VE X W a fa) (h2 : VE X W (.BoolOp .And (b :: rest) pos) fb) : VE X W (.BoolOp .And (a :: b :: rest) pos) (vAnd fa fb) := fun B =>
  peWk (pe_and (h.d B) (h2 B)) fun σ H Q ⟨F, en, S, p⟩ => by
    refine ⟨F, en, S, (Post.vb p).imp fun d en1 F1 H1 S1 s1 q v rv => ?_⟩
    obtain ⟨c, rfl, q⟩ := q
    cases rv
    refine ⟨c, rfl, ?_⟩
    cases c with
    | true => rw [if_pos rfl] at q ⊢; exact ⟨F1, en1, S1, q⟩
    | false => rw [if_neg Bool.false_ne_true] at q ⊢; exact q F1 H1 S1 (.refl _) _ (.bl false)
theorem ve_or (h : VE X W a fa) (h2 : VE X W (.BoolOp .Or (b :: rest) pos) fb) : VE X W (.BoolOp .Or (a :: b :: rest) pos) (vOr fa fb) := fun B =>
  peWk (pe_or (h.d B) (h2 B)) fun σ H Q ⟨F, en, S, p⟩ => by
    refine ⟨F, en, S, (Post.vb p).imp fun d en1 F1 H1 S1 s1 q v rv => ?_⟩
    obtain ⟨c, rfl, q⟩ := q
    cases rv
    refine ⟨c, rfl, ?_⟩
    cases c with
    | true => rw [if_pos rfl] at q ⊢; exact q F1 H1 S1 (.refl _) _ (.bl true)
    | false => rw [if_neg Bool.false_ne_true] at q ⊢; exact ⟨F1, en1, S1, q⟩
theorem ve_not (h : VE X W a fa) : VE X W (.UnaryOp .Not a pos) (vNot fa) := fun B =>
  peWk (pe_not (h.d B)) fun σ H Q ⟨F, en, S, p⟩ => by
    refine ⟨F, en, S, (Post.vb p).imp fun d en1 F1 H1 S1 s1 q v rv => ?_⟩
    obtain ⟨c, rfl, q⟩ := q
    cases rv
    exact ⟨c, rfl, q F1 H1 S1 (.refl _) _ (.bl _)⟩
theorem ve_if {c : Expr} (hc : VB X W c ga) (ha : VE X W a fa) (hb : VE X W b fb) : VE X W (.IfExp c a b pos) (vIf ga fa fb) := fun B =>
  peWk (pe_ifExp (hc B) (ha B) (hb B)) fun σ H Q ⟨F, en, S, p⟩ => by
    refine ⟨F, en, S, (Post.bind p).imp fun k en1 F1 H1 S1 s1 q => ?_⟩
    cases k with
    | true => rw [if_pos rfl] at q ⊢; exact ⟨F1, en1, S1, q⟩
    | false => rw [if_neg Bool.false_ne_true] at q ⊢; exact ⟨F1, en1, S1, q⟩

/-! ### calls of built-ins -/
variable {x : Str} {p : Pos} {id T : String} {o : List D → Option Sl} {g : M (List D)}
theorem rd_cb {B : Bs} : ∀ σ H Q, tV X.K X.mg B W (vCb o g) σ H Q → tCB (fun xs H Q => ∃ F as, Same F H ∧ DpAll X.K F xs as ∧ Kd X.K F H Q (o as)) (tDs X.K X.mg B W g) σ H Q := fun σ H Q ⟨F, en, S, p⟩ =>
  ⟨F, en, S, (Post.bind p).imp fun ds en1 F1 H1 S1 s1 q vs rvs => ⟨F1, ds, S1.sub, rvs, Post.opt S1 q⟩⟩
theorem ve_callB (hc : CV X (.builtin id) o) (hg : Gl X x) (hm : X.mg x = none) (hv : bootBuiltins x = some (.builtin id)) (ha : VDs X W (e :: es) g) (hn : x ≠ "__name__" := by decide) (hdb : (x == ("__debug__" : Str)) = false := by decide)
    (he : starEach (e :: es) X.env = (false, eval e X.env) :: starEach es X.env := by rfl) (hpl : (backTo pos (starEach es X.env)).any (·.1) = false := by rfl) : VE X W (.Call (.Name x p) (e :: es) [] pos) (vCb o g) := fun B =>
  peWk (pe_callB hc hg hm hv (ha B) hn hdb he hpl) rd_cb
theorem ve_callTy (hc : CV X (.type T) o) (hg : Gl X x) (hm : X.mg x = none) (hv : bootBuiltins x = some (.type T)) (ha : VDs X W (e :: es) g) (hn : x ≠ "__name__" := by decide) (hdb : (x == ("__debug__" : Str)) = false := by decide)
    (he : starEach (e :: es) X.env = (false, eval e X.env) :: starEach es X.env := by rfl) (hpl : (backTo pos (starEach es X.env)).any (·.1) = false := by rfl) : VE X W (.Call (.Name x p) (e :: es) [] pos) (vCb o g) := fun B =>
  peWk (pe_callTy hc hg hm hv (ha B) hn hdb he hpl) rd_cb
end
end Mv

namespace Mv
open L2 PySem.Spec PySem PyProof.Rows

/-! ### walks over sources: lists and tuples -/
inductive SrcK where
  | l | t
def srcIs : SrcK → Heap → Addr → Array Value → Prop
  | .l, h, a, items => h.IsList a items
  | .t, h, a, items => h.IsTuple a items
def srcIt : SrcK → Heap → Addr → Addr → Nat → Prop
  | .l, h, it, a, i => h.IsListIter it a i
  | .t, h, it, a, i => h.IsTupleIter it a i
def srcSq (K : PySem.W.Frag) : SrcK → Hp → Addr → List V → Prop
  | .l, H, a, vs => SqL K H a vs
  | .t, H, a, vs => SqT K H a vs
def srcOb : SrcK → Addr → Obj
  | .l, a => { cls := .type "list_iterator", data := .fields #[.ref a, .int 0 0] }
  | .t, a => { cls := .type "tuple_iterator", data := .fields #[.ref a, .int 0 0] }
theorem src_draws {prog : Program} {w : World} {A : Around} (hh : A.handled = none) : ∀ (k : SrcK) (it a : Addr) (hne : a ≠ it) (items : Array Value),
    Draws prog w A it [it, a] items.size (fun i v => items[i]? = some v) (fun i h => srcIt k h it a i ∧ srcIs k h a items)
  | .l, it, a, hne, items => Draws.list hh it a hne items
  | .t, it, a, hne, items => Draws.tuple hh it a hne items
theorem src_begins : ∀ (k : SrcK) (a : Addr) (items : Array Value), Begins (.ref a) (srcOb k a) fun h => srcIs k h a items
  | .l, a, items => begins_list a items
  | .t, a, items => begins_tuple a items
theorem src_new : ∀ (k : SrcK) (h : Heap) (it a : Addr), h.get? it = some (srcOb k a) → srcIt k h it a 0
  | .l, h, it, a, e => ⟨_, e, rfl, rfl⟩
  | .t, h, it, a, e => ⟨_, e, rfl, rfl⟩
theorem src_obj : ∀ {k : SrcK} {h : Heap} {it a : Addr} {i : Nat}, srcIt k h it a i → ∃ o, h.get? it = some o ∧ ∀ v, o.data ≠ .cell v
  | .l, h, it, a, i, ⟨o, e, c, d⟩ => ⟨o, e, fun v z => by rw [d] at z; cases z⟩
  | .t, h, it, a, i, ⟨o, e, c, d⟩ => ⟨o, e, fun v z => by rw [d] at z; cases z⟩
theorem src_keep : ∀ {k : SrcK} {h h' : Heap} {it a : Addr} {i : Nat}, srcIt k h it a i → (∀ o, h.get? it = some o → h'.get? it = some o) → srcIt k h' it a i
  | .l, _, _, _, _, _, st, e => st.at e
  | .t, _, _, _, _, _, st, e => st.at e
theorem src_is {X : Cx} {pins : List (Addr × Obj)} {σ : L2.St} {H : Hp} {s : Shared} (I : Inv X pins σ H s) : ∀ {k : SrcK} {a : Addr} {vs : List V}, srcSq X.K k H a vs →
    ∃ its : List Value, Vals vs its ∧ srcIs k s.heap a its.toArray ∧ a < s.heap.objs.size ∧ vs.length ≤ sizeLine
  | .l, a, vs, q => let ⟨its, r, p, z⟩ := I.list q; ⟨its, r, p.isList, p.lt, z⟩
  | .t, a, vs, q => let ⟨its, r, p, z⟩ := I.tuple q; ⟨its, r, p, p.lt, z⟩
theorem src_mono {K : PySem.W.Frag} {F F' : Hp} (e : Same F F') : ∀ {k : SrcK} {a : Addr} {vs : List V}, srcSq K k F a vs → srcSq K k F' a vs
  | .l, _, _, q => e.seq q
  | .t, _, _, q => sqT_mono e q

/-- what a walk of new tuples yields -/
def ItT (n : Nat) (S : Hp → Prop) (vs : Nat → List V) : It :=
  ⟨fun i H => i < n ∧ S H, fun i H v H' => ∃ T, v = .ref T ∧ H T = none ∧ H' = upd H T (.tup (vs i)), fun i H => i = n ∧ S H⟩
theorem turn_wt {P : Program} {w : World} {K : PySem.W.Frag} {elts : List Expr} {kk : Nat} {tpos : Pos} {I : Addr} {fp wr : List Addr} {n : Nat} {own : Nat → Heap → Prop} {S : Hp → Prop} {vs : Nat → List V}
    (mem : I ∈ fp) (hwr : ∀ b ∈ wr, b ∈ fp) (obj : ∀ i h, own i h → ∀ b ∈ fp, ∃ o, h.get? b = some o ∧ ∀ v, o.data ≠ .cell v) (keep : ∀ i h h', own i h → (∀ b ∈ fp, ∀ o, h.get? b = some o → h'.get? b = some o) → own i h')
    (walk : ∀ (X : Cx), X.prog = P → X.w = w → X.K = K → X.calm = true → ∀ (pins : List (Addr × Obj)) (s : Shared) (σ : L2.St) (H : Hp), Inv X pins σ H s → S H → (∃ i, own i s.heap) →
      ∃ (fp' : List Addr) (Pt : Nat → Array Value → Prop) (St : Nat → Heap → Prop) (Mid : Nat → Addr → Heap → Prop), WalksT P w X.A I fp' wr n Pt St Mid ∧ (∀ i, own i s.heap → St i s.heap) ∧ (∀ i h, St i h → own i h) ∧
        ∀ i vals, i < n → Pt i vals → Vals (vs i) vals.toList ∧ (vs i).length ≤ sizeLine)
    (self : ∀ (A : Around) (i : Nat) (s : Shared) (Q : Value → Shared → Prop) (E : Value → Shared → Prop), own i s.heap → Q (.ref I) s → wpAny (model P w) A (pyIter (.ref I)) Q E s) :
    Turn P w K (.Tuple elts kk tpos) (ItT n S vs) fp I own where
  mem := mem
  obj := obj
  keep := keep
  item := by
    intro X hP hw hK hc i pins s σ H E I0 hf st hg
    obtain ⟨hi, hS⟩ := hg
    obtain ⟨fp', Pt, St, Mid, W, h1, h2, h3⟩ := walk X hP hw hK hc pins s σ H I0 hS ⟨i, st⟩
    subst hP hw hK
    refine W.item i s _ E hi (h1 i st) fun T vals h' tk hPt hT hTu hm hk => ⟨_, rfl, ?_⟩
    refine W.go elts kk tpos i T { s with heap := h', toks := tk } _ E hm fun h'' hst' hk' => ?_
    obtain ⟨rv, hz⟩ := h3 i vals hi hPt
    have hTw := W.apart i T h' hm
    have hTu2 : h''.IsTuple T vals := hTu.at fun o e => hk' T o hTw e
    have new : ObjOk X.prog X.w (upd H T (.tup (vs i))) h'' T (.tup (vs i)) := ⟨hz, vals.toList, rv, show h''.IsTuple T vals.toList.toArray by rw [Array.toArray_toList]; exact hTu2⟩
    have I1 : Inv X pins σ (upd H T (.tup (vs i))) { s with heap := h'', toks := tk } :=
      I0.turnedNew (ch := wr) (fun b o hb e => hk' b o hb (hk b o hb e)) (fun b hb => hf b (hwr b hb)) hT new
    refine ⟨.ref T, _, I1, rfl, ⟨T, rfl, I0.hok.fresh hT, rfl⟩, h2 _ _ hst', fun b hb => ?_⟩
    obtain ⟨o, e, _⟩ := obj i _ st b hb
    rw [upd_ne (Nat.ne_of_lt (Nat.lt_of_lt_of_le (Heap.lt_size e) hT))]
    exact (hf b hb).1
  done := by
    intro X hP hw hK hc i pins s σ H E I0 hf st hg
    obtain ⟨hi, hS⟩ := hg
    subst hi
    obtain ⟨fp', Pt, St, Mid, W, h1, h2, h3⟩ := walk X hP hw hK hc pins s σ H I0 hS ⟨i, st⟩
    subst hP hw hK
    exact W.done s _ E (h1 _ st) fun h' tk hk => ⟨rfl, I0.turnedL (ch := wr) hk fun b hb => hf b (hwr b hb)⟩
  self := self

/-! ### enumerate -/
def enumOb (n : Addr) : Obj := { cls := .type "enumerate", data := .fields #[.none, .bool false, .ref n, rawInt 0, .none, .none] }
def iEnumS (K : PySem.W.Frag) (ta : TA) : TI := fun σ H R => ta σ H fun ws H1 => ∃ (k : SrcK) (a : Addr) (vs : List V), ws = [.ref a] ∧ srcSq K k H1 a vs ∧ R (ItT vs.length (fun H => srcSq K k H a vs) fun i => [.int (i : Nat), vs.getD i .non]) H1
theorem vals_getD {vs : List V} {its : List Value} (r : Vals vs its) {i : Nat} {x : Value} (h : its.toArray[i]? = some x) : RelV (vs.getD i .non) x := by
  have h' : its[i]? = some x := by simpa using h
  have hl := r.length
  have hi : i < vs.length := by
    have := (List.getElem?_eq_some_iff.mp h').1
    omega
  obtain ⟨u, e, ru⟩ := r.get (List.getElem?_eq_getElem hi)
  rw [h'] at e
  cases e
  rw [List.getD_eq_getElem?_getD,
                                                                                                                List.getElem?_eq_getElem hi]
  exact ru
theorem turn_enumS {P : Program} {w : World} {K : PySem.W.Frag} {elts : List Expr} {kk : Nat} {tpos : Pos} {k : SrcK} {a e it : Addr} {vs : List V} (hei : e ≠ it) (hae : a ≠ e) (hai : a ≠ it) :
    Turn P w K (.Tuple elts kk tpos) (ItT vs.length (fun H => srcSq K k H a vs) fun i => [.int (i : Nat), vs.getD i .non]) [e, it] e (fun i h => (∃ old, IsEnum h e it ((0 : Int) + (i : Int)) old) ∧ srcIt k h it a i) := by
  refine turn_wt (wr := [e, it]) (by simp) (fun b hb => hb) (fun i h st b hb => ?_) (fun i h h' st kp => ?_) ?_ (fun A i s Q E st q => let ⟨⟨_, he⟩, _⟩ := st; wpAny_pyIter_enum he q)
  · obtain ⟨⟨old, he⟩, hi⟩ := st
    have e' : b = e ∨
                                                                                                                  b = it := by simpa using hb
    rcases e' with z | z
    · rw [z]; exact ⟨_, he,
                                                                                                                    fun v q => nomatch q⟩
    · rw [z]; exact src_obj hi
  · obtain ⟨⟨old, he⟩, hi⟩ := st
    exact ⟨⟨old, kp e (by simp) _ he⟩, src_keep hi fun o q => kp it (by simp) o q⟩
  · intro X hP hw hK hc pins s σ H I hS _
    subst hP hw hK
    obtain ⟨its, rv, hs, _, _⟩ := src_is I hS
    have hl := rv.length
    have hsz : its.toArray.size = vs.length := by simp [hl]
    have D := src_draws (prog := X.prog) (w := X.w) (A := X.A.in1) (I.ok.hd hc) k it a hai its.toArray
    have W := WalksT.enumFrom 0 D e hei (by simp [hei, Ne.symm hae]) (by simp)
    rw [hsz] at W
    refine ⟨_, _, _, _, W, fun i st => ⟨st.1, st.2, hs⟩, fun i h st => ⟨st.1, st.2.1⟩, fun i vals hi hp => ?_⟩
    obtain ⟨t, x, hx, rfl⟩ := hp
    refine ⟨.cons ⟨t, ?_⟩ (.cons (vals_getD rv hx) .nil), by show 2 ≤ sizeLine; decide⟩
    rw [Int.zero_add]
open AutoSeq1 (wpAny_loadPart') in
set_option maxHeartbeats 1230000 in
theorem enum_one_meets {v : Value} {ob : Obj} {Hs : Heap → Prop} (Bg : Begins v ob Hs) :
    Meets (Builtin.«enumerate.__new__» ⟨[.type "enumerate", v], []⟩) (fun _ Rr sh => Hs sh.heap ∧
      Rr (.ok (.ret (.ref (sh.heap.push ob).objs.size))) { sh with heap := (sh.heap.push ob).push (enumOb sh.heap.objs.size) }) :=
  .of_wp fun prog w A Rr sh hh => by
    obtain ⟨hp, gg, dd, tt, oo⟩ := sh
    obtain ⟨b1, b2⟩ := hh
    have hsub := sub_enumerate
    have itr : ∀ {A' : Around} {E : Value → Shared → Prop} {Q : Value → Shared → Prop}, Q (.ref hp.objs.size) ⟨hp.push ob, gg, dd, tt, oo⟩ → wpAny (model prog w) A' (pyIter v) Q E ⟨hp, gg, dd, tt, oo⟩ :=
      fun qq => Bg.iter prog w _ _ ⟨hp, gg, dd, tt, oo⟩ _ b1 qq
    wp_walk using itr
    refine wpAny_stack_any fun _ => wpAny_pure ?_
    split
    · rename_i cc _ _ _ _ _
      cases (cc == Value.type "enumerate") <;> (wp_walk using itr; exact ⟨_, rfl, b2⟩)
    · wp_walk using itr
      exact ⟨_, rfl, b2⟩
theorem enum_one {prog : Program} {w : World} {A : Around} {E : Value → Shared → Prop} {s : Shared} {v : Value} {ob : Obj} {Hs : Heap → Prop} {Q : Value → Shared → Prop} (Bg : Begins v ob Hs) (h1 : Hs s.heap)
    (q : ∀ h', IsEnum h' (s.heap.objs.size + 1) s.heap.objs.size 0 .none → h'.get? s.heap.objs.size = some ob → (∀ b o, s.heap.get? b = some o → h'.get? b = some o) → Q (.ref (s.heap.objs.size + 1)) { s with heap := h' }) :
    wpAny (model prog w) A (call (.type "enumerate") [v]) Q E s := by
  refine callType_new F.called_enumerate (by decide) (F.typeCall_enumerate_1 _) (F.newCall_enumerate_1 _) (fun _ => F.args_object_init_2 _ _) F.entry_enumerate_new (enum_one_meets Bg) ⟨h1, ?_⟩
  have hz : (s.heap.push ob).objs.size = s.heap.objs.size + 1 := Heap.size_push ..
  show _ ∧ _
  rw [hz]
  have he : IsEnum ((s.heap.push ob).push (enumOb s.heap.objs.size)) (s.heap.objs.size + 1) s.heap.objs.size 0 .none := by
    have := Heap.get?_push_size (s.heap.push ob) (o := enumOb s.heap.objs.size) rfl
    rw [hz] at this; exact this
  exact ⟨⟨_, he, rfl⟩, q _ he (Heap.get?_push_of_some _ (Heap.get?_push_size _ Bg.free)) fun b o x => Heap.get?_push_of_some _ (Heap.get?_push_of_some _ x)⟩
theorem pi_enumS {X : Cx} {e : Expr} {ta : TA} {p pos tpos : Pos} {elts : List Expr} {kk : Nat} (hg : Gl X "enumerate") (hm : X.mg "enumerate" = none) (ha : PA X [e] ta) (hs : starEach [e] X.env = [(false, eval e X.env)] := by rfl) :
    PI X (.Tuple elts kk tpos) (.Call (.Name "enumerate" p) [e] [] pos) (iEnumS X.K ta) := by
  refine ⟨fun pins s σ H R I h =>
                                                                                                                ?_⟩
  refine Call_ (ld_blt I hg hm boot_enumerate (PyProof.Rows.callWith_type1 (thn (ha.run pos pins s σ H _ I h) fun us s1 ⟨ws, H1, I1, r1, q1⟩ => ?_) hs rfl))
  obtain ⟨k, a, vs, rfl, hq, q⟩ := q1
  cases r1 with
  | cons r rr =>
    cases rr
    cases r
    obtain ⟨its, rv, hsrc, hlt, hz⟩ := src_is I1 hq
    refine enum_one (src_begins k a its.toArray) hsrc fun h' he hob hk => wpAny_pyIter_enum he ?_
    have I2 : Inv X pins σ H1 { s1 with
                                                                                                                  heap := h' } := I1.kept (t' := s1.toks) hk
    have ne1 : a ≠ s1.heap.objs.size + 1 := Nat.ne_of_lt (Nat.lt_succ_of_lt hlt)
    have ne0 : a ≠ s1.heap.objs.size := Nat.ne_of_lt hlt
    refine ⟨s1.heap.objs.size + 1, [s1.heap.objs.size + 1, s1.heap.objs.size], _, _, H1, rfl, I2, turn_enumS (k := k) (a := a) (it := s1.heap.objs.size) (Nat.succ_ne_self _) ne1 ne0, ⟨⟨.none, by simpa using he⟩, src_new k h' _ a hob⟩, fun b hb => ?_, q⟩
    have hle :
                                                                                                                  s1.heap.objs.size ≤ b := by
      have e' : b = s1.heap.objs.size + 1 ∨
                                                                                                                    b = s1.heap.objs.size := by simpa using hb
      rcases e' with z | z <;> rw [z]
      · exact Nat.le_succ _
      · exact Nat.le_refl _
    exact I1.fpOk hle
                                                                                                                  (I1.hok.fresh hle)

/-! ### zip of two -/
def iZipS (K : PySem.W.Frag) (ta : TA) : TI := fun σ H R => ta σ H fun ws H1 => ∃ (k1 k2 : SrcK) (a b : Addr) (vs us : List V), ws = [.ref a, .ref b] ∧ srcSq K k1 H1 a vs ∧ srcSq K k2 H1 b us ∧
  R (ItT (min vs.length us.length) (fun H => srcSq K k1 H a vs ∧ srcSq K k2 H b us) fun i => [vs.getD i .non, us.getD i .non]) H1
theorem turn_zipS {P : Program} {w : World} {K : PySem.W.Frag} {elts : List Expr} {kk : Nat} {tpos : Pos} {k1 k2 : SrcK} {a b z TI TO i1 i2 : Addr} {vs us : List V} (Sp : ZipSep2 z TI TO i1 i2 [i1, a] [i2, b]) (na : a ≠ i1) (nb : b ≠ i2) :
    Turn P w K (.Tuple elts kk tpos) (ItT (min vs.length us.length) (fun H => srcSq K k1 H a vs ∧ srcSq K k2 H b us) fun i => [vs.getD i .non, us.getD i .non]) [z, TI, TO, i1, i2] z
      (fun i h => IsZip h z TI TO .none ∧ IsTupOf2 h TI (.ref i1) (.ref i2) ∧ (∃ x y, IsTupOf2 h TO x y) ∧ srcIt k1 h i1 a i ∧ srcIt k2 h i2 b i) := by
  refine turn_wt (wr := [z, TO, i1, i2]) (by simp) (fun c hc => ?_) (fun i h st c hc => ?_) (fun i h h' st kp => ?_) ?_ (fun A i s Q E st q => wpAny_pyIter_zip st.1 q)
  · have e' : c = z ∨ c = TO ∨ c = i1 ∨ c = i2 := by simpa using hc
    rcases e' with rfl | rfl | rfl | rfl <;> simp
  · obtain ⟨hz, hTI, ⟨x, y, hTO⟩, s1, s2⟩ := st
    have e' : c = z ∨ c = TI ∨ c = TO ∨
                                                                                                                  c = i1 ∨ c = i2 := by simpa using hc
    rcases e' with q | q | q | q | q <;> rw [q]
    · exact ⟨_, hz, fun v q => nomatch q⟩
    · exact ⟨_, hTI, fun v q => nomatch q⟩
    · exact ⟨_, hTO, fun v q => nomatch q⟩
    · exact src_obj s1
    · exact src_obj s2
  · obtain ⟨hz, hTI, ⟨x, y, hTO⟩, s1, s2⟩ := st
    exact ⟨kp z (by simp) _ hz, kp TI (by simp) _ hTI, ⟨x, y, kp TO (by simp) _ hTO⟩, src_keep s1 fun o q => kp i1 (by simp) o q, src_keep s2 fun o q => kp i2 (by simp) o q⟩
  · intro X hP hw hK hc pins s σ H I hS _
    subst hP hw hK
    obtain ⟨its, rv, hs, _, _⟩ := src_is I hS.1
    obtain ⟨jts, rw', hs2, _, _⟩ := src_is I hS.2
    have hl := rv.length
    have hl2 := rw'.length
    have D1 := src_draws (prog := X.prog) (w := X.w) (A := X.A.in1) (I.ok.hd hc) k1 i1 a na its.toArray
    have D2 := src_draws (prog := X.prog) (w := X.w) (A := X.A.in1) (I.ok.hd hc) k2 i2 b nb jts.toArray
    have W := WalksT.zipD2 Sp D1 D2
    rw [show min its.toArray.size jts.toArray.size = min vs.length us.length by simp [hl, hl2]] at W
    refine ⟨_, _, _, _, W, fun i st => ⟨st.1, st.2.1, st.2.2.1, ⟨st.2.2.2.1, hs⟩, ⟨st.2.2.2.2, hs2⟩⟩, fun i h st => ⟨st.1, st.2.1, st.2.2.1, st.2.2.2.1.1, st.2.2.2.2.1⟩, fun i vals hi hp => ?_⟩
    obtain ⟨x1, x2, hx1, hx2, rfl⟩ := hp
    exact ⟨.cons (vals_getD rv hx1) (.cons (vals_getD rw' hx2) .nil), by show 2 ≤ sizeLine; decide⟩
theorem pi_zipS {X : Cx} {e e2 : Expr} {ta : TA} {p pos tpos : Pos} {elts : List Expr} {kk : Nat} (hg : Gl X "zip") (hm : X.mg "zip" = none) (ha : PA X [e, e2] ta)
    (hs : starEach [e, e2] X.env = (false, eval e X.env) :: starEach [e2] X.env :=
                                                                                                                  by rfl) (hpl : (backTo pos (starEach [e2] X.env)).any (·.1) = false := by rfl) :
    PI X (.Tuple elts kk tpos) (.Call (.Name "zip" p) [e, e2] [] pos) (iZipS X.K ta) := by
  refine ⟨fun pins s σ H R I h =>
                                                                                                                ?_⟩
  refine Call_ (ld_blt I hg hm PyProof.Rows.boot_zip (PyProof.Rows.callWith_type1 (thn (ha.run pos pins s σ H _ I h) fun us s1 ⟨ws, H1, I1, r1, q1⟩ => ?_) hs hpl))
  obtain ⟨k1, k2, a, b, vs, ys, rfl, hq, hq2, q⟩ := q1
  cases r1 with
  | cons r rr =>
    cases rr with
    | cons r' rr =>
      cases rr
      cases r
      cases r'
      obtain ⟨its, rv, hsrc, hlt, hz⟩ := src_is I1 hq
      obtain ⟨jts, rv2, hsrc2, hlt2, hz2⟩ := src_is I1 hq2
      refine zip_begins2 (src_begins k1 a its.toArray) (src_begins k2 b jts.toArray) hsrc hsrc2 fun h' hz hTI hTO ho1 ho2 _ hk => wpAny_pyIter_zip hz ?_
      have I2 : Inv X pins σ H1 { s1 with
                                                                                                                    heap := h' } := I1.kept (t' := s1.toks) hk
      have sep := zip_sep2 (N := s1.heap.objs.size) (fp1 := [a]) (fp2 := [b]) (by simpa using hlt) (by simpa using hlt2)
      refine ⟨s1.heap.objs.size + 4, [s1.heap.objs.size + 4, s1.heap.objs.size + 2, s1.heap.objs.size + 3, s1.heap.objs.size, s1.heap.objs.size + 1], _, _, H1, rfl, I2,
        turn_zipS (k1 := k1) (k2 := k2) sep (Nat.ne_of_lt hlt) (Nat.ne_of_lt (Nat.lt_succ_of_lt hlt2)), ⟨hz, hTI, ⟨_, _, hTO⟩, src_new k1 h' _ a ho1, src_new k2 h' _ b ho2⟩, fun c hc => ?_, q⟩
      have hle :
                                                                                                                    s1.heap.objs.size ≤ c := by
        have e' : c = s1.heap.objs.size + 4 ∨ c = s1.heap.objs.size + 2 ∨ c = s1.heap.objs.size + 3 ∨ c = s1.heap.objs.size ∨ c = s1.heap.objs.size + 1 := by simpa using hc
        rcases e' with z | z | z | z | z <;> rw [z] <;> first | exact Nat.le_add_right _ _ | exact Nat.le_refl _
      exact I1.fpOk hle
                                                                                                                    (I1.hok.fresh hle)
end Mv

namespace Mv
open L2 PySem.Spec PySem PyProof.Rows

/-! ### what is walked, by values -/
/-- Fk: what is kept beside what is frozen -/
def Wk (K : PySem.W.Frag) (Fk F : Hp) (J : It) (ds : List D) : Prop := ∃ G Y, Walk J ds.length G Y ∧ (∀ F1 H, Same F F1 → Same F1 H → Same Fk H → G H) ∧
  ∀ i F1 H x H', i < ds.length → Same F F1 → Same F1 H → Same Fk H → Y i H x H' → ∃ F', Gr F1 H F' H' ∧ ∃ d, ds[i]? = some d ∧ Dp K F' x d
def tI (K : PySem.W.Frag) (mg : Str → Option Value) (B : Bs) (W : WX) (f : M (List D)) : TI := fun σ H R => ∃ F en, Sim K B σ en F H ∧ Post K mg B W σ F (fun ds _ F' H' => ∀ J, Wk K B.Kp F' J ds → R J H') (f en)
def VI (X : Cx) (W : WX) (tg e : Expr) (f : M (List D)) : Prop := ∀ B, PI X tg e (tI X.K X.mg B W f)
section
variable {K : PySem.W.Frag} {F Fk : Hp}
theorem wk_list {a : Addr} {vs : List V} {ds : List D} (q : SqL K F a vs) (r : DpAll K F vs ds) : Wk K Fk F (Itl K a) ds := by
  have hl := dps_len r
  refine ⟨_, _, by rw [← hl]; exact walk_list (xs := vs), fun F1 H s1 s2 _ => (s1.trans s2).seq q, fun i F1 H x H' hi s1 s2 _ y => ?_⟩
  obtain ⟨rfl, e⟩ := y
  exact ⟨F1, .refl s2, _, List.getElem?_eq_getElem hi, dp_mono s1 (dps_get r e (List.getElem?_eq_getElem hi))⟩
theorem wk_tup {a : Addr} {vs : List V} {ds : List D} (q : SqT K F a vs) (r : DpAll K F vs ds) : Wk K Fk F (Itt K a) ds := by
  have hl := dps_len r
  refine ⟨_, _, by rw [← hl]; exact walk_tup (xs := vs), fun F1 H s1 s2 _ => sqT_mono (s1.trans s2) q, fun i F1 H x H' hi s1 s2 _ y => ?_⟩
  obtain ⟨rfl, e⟩ := y
  exact ⟨F1, .refl s2, _, List.getElem?_eq_getElem hi, dp_mono s1 (dps_get r e (List.getElem?_eq_getElem hi))⟩
def chars (z : Str) : List D := z.cps.toList.map fun c => .str ⟨#[c]⟩
theorem wk_str {z : Str} : Wk K Fk F (Its z) (chars z) := by
  have hl : (chars z).length = z.cps.size := by simp [chars]
  refine ⟨_, _, by rw [hl]; exact walk_str, fun _ _ _ _ _ => trivial, fun i F1 H x H' hi s1 s2 _ y => ?_⟩
  obtain ⟨rfl, c, e, rfl⟩ := y
  exact ⟨F1, .refl s2, .str ⟨#[c]⟩, by simp [chars, e], .str _⟩
def rngD (lo : Int) (n : Nat) : List D := (List.range n).map fun k => .int (lo + (k : Nat))
theorem wk_rng {lo : Int} {n : Nat} : Wk K Fk F (Itr lo n) (rngD lo n) := by
  have hl : (rngD lo n).length = n := by simp [rngD]
  refine ⟨_, _, by rw [hl]; exact walk_range, fun _ _ _ _ _ => trivial, fun i F1 H x H' hi s1 s2 _ y => ?_⟩
  obtain ⟨rfl, rfl⟩ := y
  rw [hl] at hi
  exact ⟨F1, .refl s2, .int (lo + i), by simp [rngD, hi], .int _⟩
theorem wk_itT {n : Nat} {S : Hp → Prop} {vs : Nat → List V} {ds : List D} (hn : ds.length = n) (hS : ∀ F1 H, Same F F1 → Same F1 H → Same Fk H → S H) (h : ∀ i, i < n → ∃ es, ds[i]? = some (.tuple es) ∧ DpAll K F (vs i) es) : Wk K Fk F (ItT n S vs) ds := by
  subst hn
  refine ⟨S, _, ⟨fun i H hi q => ⟨hi, q⟩, fun H q => ⟨rfl, q⟩, fun i H x H' hi q y => y⟩, hS, fun i F1 H x H' hi s1 s2 _ y => ?_⟩
  obtain ⟨T, rfl, hT, rfl⟩ := y
  obtain ⟨es, e1, e2⟩ := h i hi
  have s3 : Same F (upd F1 T (.tup (vs i))) := s1.trans (same_upd (s2.free hT))
  exact ⟨_, Gr.laid s2 hT, _, e1, .tup (.inl (.inl upd_same)) (dps_mono s3 e2)⟩
end

def itemsOf : D → En → R (List D)
  | .list ds, e => .ok ds e
  | .tuple ds, e => .ok ds e
  | .str z, e => .ok (chars z) e
  | _, _ => .bad
@[simp] theorem itemsOf_list (ds : List D) (e : En) : itemsOf (.list ds) e = .ok ds e := rfl
@[simp] theorem itemsOf_tuple (ds : List D) (e : En) : itemsOf (.tuple ds) e = .ok ds e := rfl
@[simp] theorem itemsOf_str (z : Str) (e : En) : itemsOf (.str z) e = .ok (chars z) e := rfl
def vItems (f : M Sl) : M (List D) := fun en => (vD f en).bind itemsOf
section
variable {X : Cx} {W : WX} {tg e : Expr} {f : M Sl}
def iSeq (K : PySem.W.Frag) (tl : TE) : TI := fun σ H R => tl σ H fun x H1 => (∃ a vs, x = .ref a ∧ SqL K H1 a vs ∧ R (Itl K a) H1) ∨ (∃ a vs, x = .ref a ∧ SqT K H1 a vs ∧ R (Itt K a) H1) ∨ ∃ z, x = .str z ∧ R (Its z) H1
theorem pi_seq {tl : TE} (hl : PE X e tl) : PI X tg e (iSeq X.K tl) := by
  refine ⟨fun pins s σ H R I h => thn (hl.run pins s σ H _ I h) fun v s1 ⟨x, H1, I1, r1, q1⟩ => ?_⟩
  rcases q1 with ⟨a, vs, rfl, hq, q⟩ | ⟨a, vs, rfl, hq, q⟩ | ⟨z, rfl, q⟩
  · cases r1
    obtain ⟨its, rv,
                                                                                                                  p, hz⟩ := I1.list hq
    exact wpAny_pyIter_list p.isList (pi_one (tk := s1.toks) I1 _ (turn_list a _) ⟨_, Heap.get?_push_size _ rfl, rfl, rfl⟩ q)
  · cases r1
    obtain ⟨its, rv, p,
                                                                                                                  hz⟩ := I1.tuple hq
    exact wpAny_pyIter_tuple (show s1.heap.IsTuple a its.toArray from p) (pi_one (tk := s1.toks) I1 _ (turn_tuple a _) ⟨_, Heap.get?_push_size _ rfl, rfl, rfl⟩ q)
  · obtain ⟨t, rfl⟩ := r1
    cases ha : z.cps.all (· < 128)
    · exact wpAny_pyIter_wide ha (pi_one (tk := s1.toks) I1 _ (turn_str _ z t _ (.inr rfl)) ⟨_, Heap.get?_push_size _ rfl, rfl, rfl⟩ q)
    · exact wpAny_pyIter_ascii ha (pi_one (tk := s1.toks) I1 _ (turn_str _ z t _ (.inl rfl)) ⟨_, Heap.get?_push_size _ rfl, rfl, rfl⟩ q)
theorem vi_seq (h : VE X W e f) : VI X W tg e (vItems f) := fun B => piWk (pi_seq (h.d B)) fun σ H R ⟨F, en, S, p⟩ => by
  refine ⟨F, en, S, (Post.bind p).imp fun d en1 F1 H1 S1 s1 q v rv => ?_⟩
  cases d with
  | list ds =>
    cases rv with
    | lst h1 h2 => exact .inl ⟨_, _, rfl, S1.sub.seq (.inl h1), q F1 H1 S1 (.refl _) _ (wk_list (.inl h1) h2)⟩
  | tuple ds =>
    cases rv with
    | tup h1 h2 => exact .inr (.inl ⟨_, _, rfl, sqT_mono S1.sub h1, q F1 H1 S1 (.refl _) _ (wk_tup h1 h2)⟩)
  | str z =>
    cases rv
    exact .inr (.inr ⟨z, rfl, q F1 H1 S1 (.refl _) _ wk_str⟩)
  | _ => exact q.elim
/-- range(n), range(a, b) -/
def rng1 : List D → En → R (List D)
  | [.int j], e => if j < 1000000000 then .ok (rngD 0 j.toNat) e else .bad
  | _, _ => .bad
def rng2 : List D → En → R (List D)
  | [.int i, .int j], e => if i.natAbs < 1000000000 ∧ j < 1000000000 then .ok (rngD i (j - i).toNat) e else .bad
  | _, _ => .bad
variable {a b : Expr} {g : M (List D)} {p pos : Pos}
/-- a lower end below makes an empty range as well -/
theorem vi_range1 (hg : Gl X "range") (hm : X.mg "range" = none) (ha : VDs X W [a] g) (hs : starEach [a] X.env = [(false, eval a X.env)] := by rfl) : VI X W tg (.Call (.Name "range" p) [a] [] pos) (fun en => (g en).bind fun ds e => match ds with
    | [.int j] => if j.natAbs < 1000000000 then .ok (rngD 0 j.toNat) e else .bad
    | _ => .bad) := fun B => piWk (pi_range1 hg hm (ha B) hs) fun σ H R ⟨F, en, S, p⟩ => by
  refine ⟨F, en, S, (Post.bind p).imp fun ds en1 F1 H1 S1 s1 q vs rv => ?_⟩
  split at q
  · rename_i j
    cases rv with
    | cons r rr =>
      cases rr
      cases r
      split at q
      · rename_i hj
        exact ⟨j, rfl, by omega, by omega, q F1 H1 S1 (.refl _) _ wk_rng⟩
      · exact q.elim
  · exact q.elim
theorem vi_range2 (hg : Gl X "range") (hm : X.mg "range" = none) (ha : VDs X W [a, b] g) (hs : starEach [a, b] X.env = [(false, eval a X.env), (false, eval b X.env)] := by rfl) (hs2 : starEach [b] X.env = [(false, eval b X.env)] := by rfl) :
    VI X W tg (.Call (.Name "range" p) [a, b] [] pos) (fun en => (g en).bind fun ds e => match ds with
    | [.int i, .int j] => if i.natAbs < 1000000000 ∧ j.natAbs < 1000000000 then .ok (rngD i (j - i).toNat) e else .bad
    | _ => .bad) := fun B => piWk (pi_range2 hg hm (ha B) hs hs2) fun σ H R ⟨F, en, S, p⟩ => by
  refine ⟨F, en, S, (Post.bind p).imp fun ds en1 F1 H1 S1 s1 q vs rv => ?_⟩
  split at q
  · rename_i i j
    cases rv with
    | cons r rr =>
      cases rr with
      | cons r' rr =>
        cases rr
        cases r
        cases r'
        split at q
        · rename_i hj
          exact ⟨i, j, rfl, by omega, q F1 H1 S1 (.refl _) _ wk_rng⟩
        · exact q.elim
  · exact q.elim
end
/-- what enumerate and zip take: a list or a tuple -/
def seqOf : D → Option (List D)
  | .list ds => some ds
  | .tuple ds => some ds
  | _ => none
theorem src_of {K : PySem.W.Frag} {F : Hp} {x : V} {d : D} {ds : List D} (r : Dp K F x d) (h : seqOf d = some ds) : ∃ (k : SrcK) (a : Addr) (vs : List V), x = .ref a ∧ srcSq K k F a vs ∧ DpAll K F vs ds := by
  cases d with
  | list es =>
    cases h
    cases r with
    | lst h1 h2 => exact ⟨.l, _, _, rfl, .inl h1, h2⟩
  | tuple es =>
    cases h
    cases r with
    | tup h1 h2 => exact ⟨.t, _, _, rfl, h1, h2⟩
  | _ => cases h
def enumD (ds : List D) : List D := ds.mapIdx fun i d => .tuple [.int (i : Nat), d]
def zipD (ds es : List D) : List D := List.zipWith (fun a b => .tuple [a, b]) ds es
theorem dps_getD {K : PySem.W.Frag} {F : Hp} {vs : List V} {ds : List D} (r : DpAll K F vs ds) {i : Nat} {d : D} (h : ds[i]? = some d) : Dp K F (vs.getD i .non) d := by
  have hl := dps_len r
  have hi : i < vs.length := by rw [hl]; exact (List.getElem?_eq_some_iff.mp h).1
  have e : vs[i]? = some (vs.getD i .non) := by rw [List.getD_eq_getElem?_getD, List.getElem?_eq_getElem hi]; rfl
  exact dps_get r e h
section
variable {X : Cx} {W : WX} {a b : Expr} {g : M (List D)} {p pos tpos : Pos} {elts : List Expr} {kk : Nat}
theorem vi_enum (hg : Gl X "enumerate") (hm : X.mg "enumerate" = none) (ha : VDs X W [a] g) (hs : starEach [a] X.env = [(false, eval a X.env)] := by rfl) : VI X W (.Tuple elts kk tpos) (.Call (.Name "enumerate" p) [a] [] pos) (fun en => (g en).bind fun ds e =>
    match ds with
    | [d] => match seqOf d with
      | some es => .ok (enumD es) e
      | none => .bad
    | _ => .bad) := fun B => piWk (pi_enumS hg hm (ha B) hs) fun σ H R ⟨F, en, S, p⟩ => by
  refine ⟨F, en, S, (Post.bind p).imp fun ds en1 F1 H1 S1 s1 q vs rv => ?_⟩
  split at q
  · rename_i d
    cases rv with
    | cons r rr =>
      cases rr
      cases hd : seqOf d with
      | none => rw [hd] at q; exact q.elim
      | some es =>
        rw [hd] at q
        obtain ⟨k, c, us, rfl, h1, h2⟩ := src_of r hd
        refine ⟨k, c, us, rfl, src_mono S1.sub h1, q F1 H1 S1 (.refl _) _ (wk_itT (by rw [dps_len h2]; simp [enumD]) (fun F2 H2 z1 z2 _ => src_mono (z1.trans z2) h1) fun i hi => ?_)⟩
        rw [dps_len h2] at hi
        exact ⟨[.int (i : Nat), es[i]], by simp [enumD, hi], .cons (.int _) (dps_one (dps_getD h2 (List.getElem?_eq_getElem hi)))⟩
  · exact q.elim
theorem vi_zip (hg : Gl X "zip") (hm : X.mg "zip" = none) (ha : VDs X W [a, b] g) (hs : starEach [a, b] X.env = (false, eval a X.env) :: starEach [b] X.env := by rfl) (hpl : (backTo pos (starEach [b] X.env)).any (·.1) = false := by rfl) :
    VI X W (.Tuple elts kk tpos) (.Call (.Name "zip" p) [a, b] [] pos) (fun en => (g en).bind fun ds e =>
    match ds with
    | [d, d2] => match seqOf d, seqOf d2 with
      | some es, some es2 => .ok (zipD es es2) e
      | _, _ => .bad
    | _ => .bad) := fun B => piWk (pi_zipS hg hm (ha B) hs hpl) fun σ H R ⟨F, en, S, p⟩ => by
  refine ⟨F, en, S, (Post.bind p).imp fun ds en1 F1 H1 S1 s1 q vs rv => ?_⟩
  split at q
  · rename_i d d2
    cases rv with
    | cons r rr =>
      cases rr with
      | cons r' rr =>
        cases rr
        split at q
        · rename_i es es2 hd hd2
          obtain ⟨k, c, us, rfl, h1, h2⟩ := src_of r hd
          obtain ⟨k2, c2, us2, rfl, h3, h4⟩ := src_of r' hd2
          refine ⟨k, k2, c, c2, us, us2, rfl, src_mono S1.sub h1, src_mono S1.sub h3, q F1 H1 S1 (.refl _) _ (wk_itT (by rw [dps_len h2, dps_len h4]; simp [zipD]) (fun F2 H2 z1 z2 _ => ⟨src_mono (z1.trans z2) h1, src_mono (z1.trans z2) h3⟩) fun i hi => ?_)⟩
          rw [dps_len h2, dps_len h4] at hi
          have hi1 : i < es.length := by omega
          have hi2 : i < es2.length := by omega
          exact ⟨[es[i], es2[i]], by simp [zipD, List.getElem?_zipWith, hi1, hi2], .cons (dps_getD h2 (List.getElem?_eq_getElem hi1)) (dps_one (dps_getD h4 (List.getElem?_eq_getElem hi2)))⟩
        · exact q.elim
  · exact q.elim
end

/-! ### targets -/
def tG (K : PySem.W.Frag) (B : Bs) (vs : List Nat) (g : D → En → Option En) : TG := fun v σ H Q => ∃ F en d, Sim K B σ en F H ∧ Dp K F v d ∧ ∃ en', g d en = some en' ∧ ∀ σ', Sim K B σ' en' F H → wipe σ' vs = wipe σ vs → Q σ' H
def tGs (K : PySem.W.Frag) (B : Bs) (vs : List Nat) (g : List D → En → Option En) : TGs := fun us σ H Q => ∃ F en ds, Sim K B σ en F H ∧ DpAll K F us ds ∧ ∃ en', g ds en = some en' ∧ ∀ σ', Sim K B σ' en' F H → wipe σ' vs = wipe σ vs → Q σ' H
def VG (X : Cx) (e : Expr) (vs : List Nat) (g : D → En → Option En) : Prop := ∀ B, PG X e (tG X.K B vs g)
def VGs (X : Cx) (es : List Expr) (vs : List Nat) (g : List D → En → Option En) : Prop := ∀ B, PGs X es (tGs X.K B vs g)
theorem wipe_set {σ : L2.St} {i : Nat} {x : Option V} : ∀ {vs : List Nat}, i ∈ vs → wipe (σ.set i x) vs = wipe σ vs
  | v :: vs, h => by
    unfold wipe
    by_cases e : i = v
    · subst e
      by_cases h2 : i ∈ vs
      · rw [wipe_set h2]
      · have : ∀ us : List Nat, i ∉ us → wipe (σ.set i x) us = (wipe σ us).set i x := by
          intro us hu
          induction us with
          | nil => rfl
          | cons u us ih =>
            unfold wipe
            rw [ih (fun z => hu (List.mem_cons_of_mem _ z)), List.set_comm _ _ (fun z => hu (by simp [z]))]
        rw [this vs h2, List.set_set]
    · rw [wipe_set ((List.mem_cons.mp h).resolve_left e)]
def pNm (i : Nat) : D → En → Option En := fun d en => some (en.set i (.val d))
def pNil : List D → En → Option En
  | [], en => some en
  | _, _ => none
def pCons (g : D → En → Option En) (h : List D → En → Option En) : List D → En → Option En
  | d :: ds, en => (g d en).bind (h ds)
  | [], _ => none
def pTup (h : List D → En → Option En) : D → En → Option En
  | .tuple ds, en => h ds en
  | _, _ => none
section
variable {X : Cx} {pos : Pos} {vs : List Nat} {e : Expr} {es : List Expr} {g : D → En → Option En} {h : List D → En → Option En}
theorem pgWk {t t' : TG} (k : PG X e t) (w : ∀ v σ H Q, t' v σ H Q → t v σ H Q) : PG X e t' := ⟨fun pins s σ H v u Q I r q => k.run pins s σ H v u Q I r (w _ _ _ _ q)⟩
theorem pgsWk {t t' : TGs} (k : PGs X es t) (w : ∀ v σ H Q, t' v σ H Q → t v σ H Q) : PGs X es t' := ⟨fun pins s σ H v u Q I r q => k.run pins s σ H v u Q I r (w _ _ _ _ q)⟩
theorem vg_nm {i : Nat} {x : Str} (hN : X.N.Nodup) (hi : X.N[i]? = some x := by rfl) (hx : Loc X.env.scope x := by first | exact Or.inl rfl | exact Or.inr rfl) (hv : i ∈ vs := by decide)
    (hf : X.fn x = true ∨ X.env.scope.names.lookup x = some .local := by first | exact .inl rfl | exact .inr rfl) : VG X (.Name x pos) vs (pNm i) := fun B => pgWk (pg_name hN hi hx hf) fun v σ H Q ⟨F, en, d, S, r, en', e1, q⟩ => by
  cases e1
  exact q _ (S.store (s := .val d) r) (wipe_set hv)
theorem vgs_nil : VGs X [] vs pNil := fun B => pgsWk pgs_nil fun us σ H Q ⟨F, en, ds, S, r, en', e1, q⟩ => by
  cases ds with
  | nil =>
    cases r
    cases e1
    exact ⟨rfl, q σ S rfl⟩
  | cons d ds => cases e1
theorem vgs_cons (h1 : VG X e vs g) (h2 : VGs X es vs h) (hs : (assignEach (e :: es) X.env).map (·.2) = assign e X.env :: (assignEach es X.env).map (·.2) := by rfl) : VGs X (e :: es) vs (pCons g h) := fun B =>
  pgsWk (pgs_cons (h1 B) (h2 B) hs) fun us σ H Q ⟨F, en, ds, S, r, en', e1, q⟩ => by
    cases ds with
    | nil => cases e1
    | cons d ds =>
      cases r with
      | cons r rr =>
        obtain ⟨en1, g1, g2⟩ := Option.bind_eq_some_iff.mp e1
        exact ⟨_, _, rfl, F, en, d, S, r, en1, g1, fun σ1 S1 w1 => ⟨F, en1, ds, S1, rr, en', g2, fun σ2 S2 w2 => q σ2 S2 (w2.trans w1)⟩⟩
theorem vg_tup {k : Nat} (hc : X.calm = true) (hh : VGs X es vs h) {n : Nat} (hlen : ∀ ds en en', h ds en = some en' → ds.length = n) (hn : (assignEach es X.env).length = n := by rfl)
    (hst : (assignEach es X.env).findIdx? (·.1) = none := by rfl) : VG X (.Tuple es k pos) vs (pTup h) := fun B => pgWk (pg_tup hc (hh B) hn hst) fun v σ H Q ⟨F, en, d, S, r, en', e1, q⟩ => by
  cases d with
  | tuple ds =>
    cases r with
    | tup r1 r2 => exact ⟨_, _, rfl, sqT_mono S.sub r1, (dps_len r2).trans (hlen _ _ _ e1), F, en, ds, S, r2, en', e1, q⟩
  | _ => cases e1
theorem pNil_len (ds : List D) (en en' : En) (h : pNil ds en = some en') : ds.length = 0 := by
  cases ds with
  | nil => rfl
  | cons _ _ => cases h
theorem pCons_len {n : Nat} (hh : ∀ ds en en', h ds en = some en' → ds.length = n) (ds : List D) (en en' : En) (e : pCons g h ds en = some en') : ds.length = n + 1 := by
  cases ds with
  | nil => cases e
  | cons d ds =>
    obtain ⟨en1, g1, g2⟩ := Option.bind_eq_some_iff.mp e
    rw [List.length_cons, hh _ _ _ g2]
end
end Mv

namespace Mv
open L2 PySem.Spec PySem PyProof.Rows

inductive Fl where
  | nx
  | rt (r : Sl)
  | bk
  | ct
abbrev MS := En → R Fl
section
variable {K : PySem.W.Frag} {mg : Str → Option Value} {B : Bs} {W : WX} {F F1 : Hp}
def PostS (K : PySem.W.Frag) (mg : Str → Option Value) (B : Bs) (W : WX) (F : Hp) (Dn : Ends) : R Fl → Prop
  | .ok .nx en' => ∀ σ' F' H', Sim K B σ' en' F' H' → Same F F' → Dn.nx σ' H'
  | .ok (.rt r) en' => ∀ σ' F' H' v, Sim K B σ' en' F' H' → Same F F' → Rl K B σ' en' F' H' v r → Dn.rt v H'
  | .ok .bk en' => ∀ σ' F' H', Sim K B σ' en' F' H' → Same F F' → Dn.bk σ' H'
  | .ok .ct en' => ∀ σ' F' H', Sim K B σ' en' F' H' → Same F F' → Dn.ct σ' H'
  | .exc c fs en' => ∀ σ' F' H' cls d, Sim K B σ' en' F' H' → Same F F' → RX K mg F' H' c fs cls d → W cls d σ' H'
  | .bad => False
theorem PostS.up {Dn : Ends} {r : R Fl} (p : PostS K mg B W F Dn r) (s : Same F F1) : PostS K mg B W F1 Dn r := by
  cases r with
  | ok a e =>
    cases a with
    | nx => exact fun σ' F' H' S q => p σ' F' H' S (s.trans q)
    | rt r => exact fun σ' F' H' v S q => p σ' F' H' v S (s.trans q)
    | bk => exact fun σ' F' H' S q => p σ' F' H' S (s.trans q)
    | ct => exact fun σ' F' H' S q => p σ' F' H' S (s.trans q)
  | exc c fs e => exact fun σ' F' H' cls d S q => p σ' F' H' cls d S (s.trans q)
  | bad => exact p
/-- an expression, then a statement's end -/
theorem PostS.bind {α : Type} {σ : L2.St} {Dn : Ends} {r : R α} {g : α → En → R Fl} (p : PostS K mg B W F Dn (r.bind g)) : Post K mg B W σ F (fun a en1 F1 _ => PostS K mg B W F1 Dn (g a en1)) r := by
  cases r with
  | ok a e => exact fun F' H' S q => PostS.up p q
  | exc c fs e => exact fun F' H' cls d S q => p σ F' H' cls d S q
  | bad => exact p
def tS (K : PySem.W.Frag) (mg : Str → Option Value) (B : Bs) (W : WX) (g : MS) : TS := fun Dn σ H => ∃ F en, Sim K B σ en F H ∧ PostS K mg B W F Dn (g en)
end
def VS (X : Cx) (W : WX) (st : Stmt) (g : MS) : Prop := ∀ B, PS X st (tS X.K X.mg B W g)
def VSs (X : Cx) (W : WX) (st : List Stmt) (g : MS) : Prop := ∀ B, PSs X st (tS X.K X.mg B W g)

def sNil : MS := fun en => .ok .nx en
def sSeq (g h : MS) : MS := fun en => match g en with
  | .ok .nx e => h e
  | r => r
section
variable {X : Cx} {W : WX} {st : Stmt} {rest : List Stmt} {g h : MS} {pos : Pos} {e : Expr} {f : M Sl}
theorem vss_nil : VSs X W [] sNil := fun B => pssWk pss_nil fun Dn σ H ⟨F, en, S, p⟩ => p σ F H S (.refl _)
theorem vss_cons (h1 : VS X W st g) (h2 : VSs X W rest h) : VSs X W (st :: rest) (sSeq g h) := fun B => pssWk (pss_cons (h1 B) (h2 B)) fun Dn σ H ⟨F, en, S, p⟩ => by
  refine ⟨F, en, S, ?_⟩
  unfold sSeq at p
  cases hg : g en with
  | ok a e =>
    rw [hg] at p
    cases a with
    | nx => exact fun σ' F' H' S' s' => ⟨F', e, S', p.up s'⟩
    | rt r => exact p
    | bk => exact p
    | ct => exact p
  | exc c fs e => rw [hg] at p; exact p
  | bad => rw [hg] at p; exact p
theorem vss_one (h1 : VS X W st g) : VSs X W [st] g := fun B => pss_one (h1 B)
def sSet (i : Nat) (f : M Sl) : MS := fun en => (f en).bind fun r e => .ok .nx (e.set i r)
theorem rd_set {B : Bs} (i : Nat) : ∀ Dn σ H, tS X.K X.mg B W (sSet i f) Dn σ H → tAsg (tV X.K X.mg B W f) (gName i) Dn σ H := fun Dn σ H ⟨F, en, S, p⟩ =>
  ⟨F, en, S, (PostS.bind p).imp fun r en1 F1 H1 S1 s1 q v rv => q _ F1 H1 (S1.store rv) (.refl _)⟩
theorem vs_set {i : Nat} {x : Str} {pos' : Pos} (hN : X.N.Nodup) (he : VE X W e f) (hi : X.N[i]? = some x := by rfl) (hx : Loc X.env.scope x := by first | exact Or.inl rfl | exact Or.inr rfl) (hs : swapsWith e (some (.Name x pos')) pos.line X.env = pure false := by rfl)
    (hf : X.fn x = true ∨ X.env.scope.names.lookup x = some .local := by first | exact .inl rfl | exact .inr rfl) : VS X W (.Assign [.Name x pos'] e pos) (sSet i f) := fun B =>
  psWk (ps_set hN hi hx (he B) hs hf) (rd_set i)
def sDrop (f : M Sl) : MS := fun en => (f en).bind fun _ e => .ok .nx e
theorem vs_expr (he : VE X W e f) (hs : swapsWith e none pos.line X.env = pure false := by rfl) : VS X W (.Expr e pos) (sDrop f) := fun B => psWk (ps_expr (he B) hs) fun Dn σ H ⟨F, en, S, p⟩ =>
  ⟨F, en, S, (PostS.bind p).imp fun r en1 F1 H1 S1 s1 q v rv => q _ F1 H1 S1 (.refl _)⟩
def sRet (f : M Sl) : MS := fun en => (f en).bind fun r e => .ok (.rt r) e
theorem vs_ret (he : VE X W e f) : VS X W (.Return (some e) pos) (sRet f) := fun B => psWk (ps_ret (he B)) fun Dn σ H ⟨F, en, S, p⟩ =>
  ⟨F, en, S, (PostS.bind p).imp fun r en1 F1 H1 S1 s1 q v rv => q σ F1 H1 v S1 (.refl _) rv⟩
def sRetN : MS := fun en => .ok (.rt (.val .none)) en
theorem vs_retN : VS X W (.Return none pos) sRetN := fun B => psWk ps_retN fun Dn σ H ⟨F, en, S, p⟩ => p σ F H _ S (.refl _) .non
theorem Sim.forget {K : PySem.W.Frag} {B : Bs} {σ : L2.St} {en : En} {F H : Hp} (S : Sim K B σ en F H) (i : Nat) : Sim K B σ (en.set i .no) F H := by
  have key : ∀ j s, (en.set i .no)[j]? = some s → s = .no ∨ (j ≠ i ∧ en[j]? = some s) := fun j s hj => by
    rw [List.getElem?_set] at hj
    by_cases e : i = j
    · rw [if_pos e] at hj
      split at hj
      · exact .inl (Option.some.inj hj).symm
      · cases hj
    · rw [if_neg e] at hj
      exact .inr ⟨fun z => e z.symm, hj⟩
  refine ⟨by rw [List.length_set]; exact S.len, S.sub, S.f0, S.new, S.kp, S.z, fun j d hj => ?_, fun j b xs hj => ?_, fun j k a hjk hj hk => ?_⟩
  · rcases key j _ hj with z | ⟨_, z⟩
    · cases z
    · exact S.val j d z
  · rcases key j _ hj with z | ⟨_, z⟩
    · cases z
    · exact S.own j b xs z
  · obtain ⟨b, xs, hj⟩ := hj
    obtain ⟨b2, xs2, hk⟩ := hk
    rcases key j _ hj with z | ⟨_, z⟩
    · cases z
    · rcases key k _ hk with z2 | ⟨_, z2⟩
      · cases z2
      · exact S.apart j k a hjk ⟨_, _, z⟩ ⟨_, _, z2⟩
/-- return of a name: an own list is handed on as it is -/
def sRetV (i : Nat) : MS := fun en => match en[i]? with
  | some (.val d) => .ok (.rt (.val d)) en
  | some (.own false xs) => .ok (.rt (.own false xs)) (en.set i .no)
  | _ => .bad
theorem vs_retv (i : Nat) {x : Str} {p : Pos} (hN : X.N[i]? = some x := by rfl) (hv : Vis X.env.scope x := by first | exact Or.inl rfl | exact Or.inr (Or.inl rfl) | exact Or.inr (Or.inr rfl)) (hd : (x == ("__debug__" : Str)) = false := by decide)
    (hcd : (x == ("__classdict__" : Str)) = false := by decide) : VS X W (.Return (some (.Name x p)) pos) (sRetV i) := fun B => psWk (ps_ret (pe_var hN hv hd hcd)) fun Dn σ H ⟨F, en, S, p⟩ => by
  unfold sRetV at p
  split at p
  · rename_i d hh
    obtain ⟨v, h1, h2⟩ := S.val i d hh
    exact ⟨v, h1, p σ F H v S (.refl _) h2⟩
  · rename_i xs hh
    obtain ⟨a, vs, h1, h2, h3, h4, h5, h6, _⟩ := S.own i _ xs hh
    refine ⟨_, h1, p σ F H _ (S.forget i) (.refl _) ⟨rfl, a, vs, rfl, h2, h3, h4, h5, h6 rfl, fun j hj e => ?_⟩⟩
    rcases isOwn_set hj with ⟨_, _, _, z⟩ | ⟨hji, hj⟩
    · cases z
    · exact S.apart i j a (Ne.symm hji) (isOwn_out hh) hj h1 e
  · exact p.elim
def sIf (c : M Bool) (g h : MS) : MS := fun en => (c en).bind fun b e => if b = true then g e else h e
theorem vs_if {c : Expr} {a b : List Stmt} {t : M Bool} (hc : VB X W c t) (ha : VSs X W a g) (hb : VSs X W b h) : VS X W (.If c a b pos) (sIf t g h) := fun B => psWk (ps_if (hc B) (ha B) (hb B)) fun Dn σ H ⟨F, en, S, p⟩ => by
  refine ⟨F, en, S, (PostS.bind p).imp fun k en1 F1 H1 S1 s1 q => ?_⟩
  cases k with
  | true => rw [if_pos rfl] at q ⊢; exact ⟨F1, en1, S1, q⟩
  | false => rw [if_neg Bool.false_ne_true] at q ⊢; exact ⟨F1, en1, S1, q⟩
theorem vs_pass : VS X W (.Pass pos) sNil := fun B => psWk ps_pass fun Dn σ H ⟨F, en, S, p⟩ => p σ F H S (.refl _)
def sBrk : MS := fun en => .ok .bk en
def sCnt : MS := fun en => .ok .ct en
theorem vs_break : VS X W (.Break pos) sBrk := fun B => psWk ps_break fun Dn σ H ⟨F, en, S, p⟩ => p σ F H S (.refl _)
theorem vs_continue : VS X W (.Continue pos) sCnt := fun B => psWk ps_continue fun Dn σ H ⟨F, en, S, p⟩ => p σ F H S (.refl _)
/-- pattern = value -/
def sAsg (pat : D → En → Option En) (f : M Sl) : MS := fun en => (vD f en).bind fun d e => match pat d e with
  | some e2 => .ok .nx e2
  | none => .bad
theorem vs_asg {tg : Expr} {vs : List Nat} {pat : D → En → Option En} (he : VE X W e f) (hg : VG X tg vs pat) (hs : swapsWithSole [tg] e pos.line X.env = pure false := by rfl) (hw : swappedStores [tg] e X.env = pure none := by rfl)
    (h1 : (assignEach [tg] X.env).map (·.2) = [assign tg X.env] := by rfl) : VS X W (.Assign [tg] e pos) (sAsg pat f) := fun B => psWk (ps_asg (he.d B) (hg B) hs hw h1) fun Dn σ H ⟨F, en, S, p⟩ => by
  refine ⟨F, en, S, (PostS.bind p).imp fun d en1 F1 H1 S1 s1 q v rv => ?_⟩
  cases hp : pat d en1 with
  | none => rw [hp] at q; exact q.elim
  | some e2 =>
    rw [hp] at q
    exact ⟨F1, en1, d, S1, rv, e2, hp, fun σ' S' _ => q σ' F1 H1 S' (.refl _)⟩

/-! ### loops -/
def forL (pat : D → En → Option En) (body : MS) : List D → MS
  | [], e => .ok .nx e
  | d :: ds, e => match pat d e with
    | none => .bad
    | some e1 => match body e1 with
      | .ok .nx e2 => forL pat body ds e2
      | .ok .ct e2 => forL pat body ds e2
      | .ok .bk e2 => .ok .nx e2
      | .ok (.rt r) e2 => .ok (.rt r) e2
      | .exc c fs e2 => .exc c fs e2
      | .bad => .bad
def sFor (it : M (List D)) (pat : D → En → Option En) (body : MS) : MS := fun en => (it en).bind fun xs e => forL pat body xs e
theorem vs_for {tg iter : Expr} {body : List Stmt} {it : M (List D)} {pat : D → En → Option En} {vs : List Nat} {gb : MS} (hc : X.calm = true) (hp : PassesOwn (model X.prog X.w) X.A X.env X.xe) (hi : VI X W tg iter it) (hg : VG X tg vs pat) (hb : VSs X W body gb)
    (hs : ∀ x, foldedSetIterable iter X.env x = pure x := by intro _; rfl) : VS X W (.For tg iter body [] pos) (sFor it pat gb) := fun B => psWk (ps_for hp hc (hi B) (hg B) (hb B) hs) fun Dn σ H ⟨F, en, S, p⟩ => by
  refine ⟨F, en, S, (PostS.bind p).imp fun xs en1 F1 H1 S1 s1 q J wk => ?_⟩
  obtain ⟨G, Y, wlk, hG, hY⟩ := wk
  refine for_it wlk (fun i σ2 H2 => ∃ F2 en2, Sim X.K B σ2 en2 F2 H2 ∧ Same F1 F2 ∧ PostS X.K X.mg B W F2 Dn (forL pat gb (xs.drop i) en2)) ⟨F1, en1, S1, .refl _, q⟩ (fun i σ2 H2 _ ⟨F2, en2, S2, z, _⟩ => hG F2 H2 z S2.sub S2.kp) (fun i x σ2 H2 H3 hi pv y => ?_) fun σ2 H2 pv => ?_
  · obtain ⟨F2, en2, S2, z, q2⟩ := pv
    obtain ⟨F3, gr, d, hd, dv⟩ := hY i F2 H2 x H3 hi z S2.sub S2.kp y
    have e1 : xs.drop i = d :: xs.drop (i + 1) := by
      rw [List.drop_eq_getElem_cons hi]
      rw [List.getElem?_eq_getElem hi] at hd
      rw [Option.some.inj hd]
    rw [e1] at q2
    unfold forL at q2
    have S3 := S2.gr gr
    have z3 := z.trans gr.ff
    have q3 := q2.up gr.ff
    cases hpt : pat d en2 with
    | none => rw [hpt] at q3; exact q3.elim
    | some e3 =>
      rw [hpt] at q3
      refine ⟨F3, en2, d, S3, dv, e3, hpt, fun σ4 S4 _ => ⟨F3, e3, S4, ?_⟩⟩
      dsimp only at q3
      cases hb : gb e3 with
      | ok a e4 =>
        rw [hb] at q3
        cases a with
        | nx => exact fun σ5 F5 H5 S5 s5 => ⟨F5, e4, S5, z3.trans s5, q3.up s5⟩
        | ct => exact fun σ5 F5 H5 S5 s5 => ⟨F5, e4, S5, z3.trans s5, q3.up s5⟩
        | bk => exact q3
        | rt r => exact q3
      | exc c fs e4 => rw [hb] at q3; exact q3
      | bad => rw [hb] at q3; exact q3
  · obtain ⟨F2, en2, S2, z, q2⟩ := pv
    rw [List.drop_length] at q2
    exact q2 σ2 F2 H2 S2 (.refl _)
def whileL (c : M Bool) (body : MS) : Nat → MS
  | 0, _ => .bad
  | n + 1, e => (c e).bind fun b e1 => if b = true then (match body e1 with
      | .ok .nx e2 => whileL c body n e2
      | .ok .ct e2 => whileL c body n e2
      | .ok .bk e2 => .ok .nx e2
      | .ok (.rt r) e2 => .ok (.rt r) e2
      | .exc c fs e2 => .exc c fs e2
      | .bad => .bad) else .ok .nx e1
theorem vs_while {c : Expr} {body : List Stmt} {t : M Bool} {gb : MS} (n : Nat) (hp : PassesOwn (model X.prog X.w) X.A X.env X.xe) (hc : VB X W c t) (hb : VSs X W body gb) : VS X W (.While c body [] pos) (whileL t gb n) := fun B =>
  psWk (ps_while hp (hc B) (hb B)) fun Dn σ H ⟨F, en, S, p⟩ => by
    refine ⟨fun m σ2 H2 => ∃ F2 en2, Sim X.K B σ2 en2 F2 H2 ∧ PostS X.K X.mg B W F2 Dn (whileL t gb m en2), ⟨n, F, en, S, p⟩, fun m σ2 H2 ⟨F2, en2, S2, q2⟩ => ?_⟩
    cases m with
    | zero => exact q2.elim
    | succ m =>
      refine ⟨F2, en2, S2, (PostS.bind q2).imp fun b en3 F3 H3 S3 s3 q3 => ?_⟩
      cases b with
      | false =>
        rw [if_neg Bool.false_ne_true] at q3 ⊢
        exact q3 σ2 F3 H3 S3 (.refl _)
      | true =>
        rw [if_pos rfl] at q3 ⊢
        refine ⟨fun σ4 H4 => ∃ F4 en4, Sim X.K B σ4 en4 F4 H4 ∧ PostS X.K X.mg B W F4 Dn (whileL t gb m en4), fun σ4 H4 h4 => ⟨m, Nat.lt_succ_self _, h4⟩, F3, en3, S3, ?_⟩
        cases hb : gb en3 with
        | ok a e4 =>
          rw [hb] at q3
          cases a with
          | nx => exact fun σ5 F5 H5 S5 s5 => ⟨F5, e4, S5, q3.up s5⟩
          | ct => exact fun σ5 F5 H5 S5 s5 => ⟨F5, e4, S5, q3.up s5⟩
          | bk => exact q3
          | rt r => exact q3
        | exc c fs e4 => rw [hb] at q3; exact q3
        | bad => rw [hb] at q3; exact q3

/-! ### own lists changed -/
/-- the own list in a slot, with its address -/
theorem Sim.slotL {K : PySem.W.Frag} {B : Bs} {σ : L2.St} {en : En} {F H : Hp} {i : Nat} {b : Bool} {xs : List D} (S : Sim K B σ en F H) (h : en[i]? = some (.own b xs)) : ∃ a vs, σ[i]? = some (some (.ref a)) ∧ H a = some (.lst vs) ∧ DpAll K F vs xs ∧ vs.length = xs.length :=
  let ⟨a, vs, h1, h2, _, h4, _⟩ := S.own i b xs h
  ⟨a, vs, h1, h2, h4, dps_len h4⟩
def ownAt (i : Nat) (e : En) (k : Bool → List D → R Fl) : R Fl := match e[i]? with
  | some (.own b xs) => k b xs
  | _ => .bad
variable {a : Expr} {fa fb : M Sl} {x : Str} {p apos cpos : Pos}
/-- x.append(e) -/
def sApp (i : Nat) (f : M Sl) : MS := fun en => ownAt i en fun _ _ => (vD f en).bind fun d e => ownAt i e fun b xs => if xs.length < LIM then .ok .nx (e.set i (.own b (xs ++ [d]))) else .bad
theorem vs_app {i : Nat} (he : VE X W e f) (hN : X.N[i]? = some x := by rfl) (hv : Vis X.env.scope x := by first | exact Or.inl rfl | exact Or.inr (Or.inl rfl)) (hd : (x == ("__debug__" : Str)) = false := by decide)
    (hcd : (x == ("__classdict__" : Str)) = false := by decide) (hbase : attributeBase (.Name x p) "append" X.env (eval (.Name x p) X.env) = eval (.Name x p) X.env := by rfl)
    (hfew : ((backTo cpos (starEach [e] X.env)).all (fun x => !x.1) && (backToKw cpos (keywordEach [] X.env)).all (fun x => x.1.isSome) && decide ([e].length + ([] : List Keyword).length + (if ([] : List Keyword).isEmpty then 0 else 1) < 30)) = true := by rfl)
    (hline : (apos.endLine == cpos.line) = true := by rfl) (hst : starEach [e] X.env = (false, eval e X.env) :: starEach [] X.env := by rfl) (hsw : swapsWith (.Call (.Attribute (.Name x p) "append" apos) [e] [] cpos) none pos.line X.env = pure false := by rfl) :
    VS X W (.Expr (.Call (.Attribute (.Name x p) "append" apos) [e] [] cpos) pos) (sApp i f) := fun B =>
  psWk (ps_expr (pe_bm PySem.F.plainAttrs_list PySem.F.slot_list_append PySem.F.type_list_append mt_append (pe_var hN hv hd hcd) (pa_cons (he.d B) pa_nil hst) hbase hfew hline hst) hsw) fun Dn σ H ⟨F, en, S, q⟩ => by
    unfold sApp ownAt at q
    split at q
    · rename_i b0 xs0 h0
      obtain ⟨a0, vs0, e0, l0, _, _⟩ := S.slotL h0
      refine ⟨_, e0, .inl ⟨rfl, vs0, .inl (.inl l0)⟩, F, en, S, (PostS.bind q).imp fun d en1 F1 H1 S1 s1 q1 v rv => ?_⟩
      split at q1
      · rename_i b xs h1
        obtain ⟨a1, vs, e1, l1, r1, len⟩ := S1.slotL h1
        rw [e0] at e1
        cases e1
        dsimp only at q1
        split at q1
        · rename_i hl
          refine ⟨_, vs, v, rfl, rfl, l1, by rw [len]; exact lim_lt (Nat.le_of_lt hl), ?_⟩
          exact q1 σ F1 _ (S1.change h1 e0 l1 (dps_app r1 (dps_one rv))) (.refl _)
        · exact q1.elim
      · exact q1.elim
    · exact q.elim
/-- x.insert(k, e) -/
def sIns (i : Nat) (g : M (List D)) : MS := fun en => ownAt i en fun _ _ => (g en).bind fun ds e => ownAt i e fun b xs => match ds with
  | [.int k, d] => if xs.length < LIM ∧ 0 ≤ k ∧ k < 1000000000 then .ok .nx (e.set i (.own b (xs.take k.toNat ++ [d] ++ xs.drop k.toNat))) else .bad
  | _ => .bad
theorem vs_ins {i : Nat} {e2 : Expr} {g2 : M (List D)} (he : VDs X W [e, e2] g2) (hN : X.N[i]? = some x := by rfl) (hv : Vis X.env.scope x := by first | exact Or.inl rfl | exact Or.inr (Or.inl rfl)) (hd : (x == ("__debug__" : Str)) = false := by decide)
    (hcd : (x == ("__classdict__" : Str)) = false := by decide) (hbase : attributeBase (.Name x p) "insert" X.env (eval (.Name x p) X.env) = eval (.Name x p) X.env := by rfl)
    (hfew : ((backTo cpos (starEach [e, e2] X.env)).all (fun x => !x.1) && (backToKw cpos (keywordEach [] X.env)).all (fun x => x.1.isSome) && decide ([e, e2].length + ([] : List Keyword).length + (if ([] : List Keyword).isEmpty then 0 else 1) < 30)) = true := by rfl)
    (hline : (apos.endLine == cpos.line) = true := by rfl) (hst : starEach [e, e2] X.env = (false, eval e X.env) :: starEach [e2] X.env := by rfl) (hpl : (backTo cpos (starEach [e2] X.env)).any (·.1) = false := by rfl)
    (hsw : swapsWith (.Call (.Attribute (.Name x p) "insert" apos) [e, e2] [] cpos) none pos.line X.env = pure false := by rfl) :
    VS X W (.Expr (.Call (.Attribute (.Name x p) "insert" apos) [e, e2] [] cpos) pos) (sIns i g2) := fun B =>
  psWk (ps_expr (pe_bm PySem.F.plainAttrs_list PySem.F.slot_list_insert PySem.F.type_list_insert mt_insert (pe_var hN hv hd hcd) (he B) hbase hfew hline hst hpl) hsw) fun Dn σ H ⟨F, en, S, q⟩ => by
    unfold sIns ownAt at q
    split at q
    · rename_i b0 xs0 h0
      obtain ⟨a0, vs0, e0, l0, _, _⟩ := S.slotL h0
      refine ⟨_, e0, .inl ⟨rfl, vs0, .inl (.inl l0)⟩, F, en, S, (PostS.bind q).imp fun ds en1 F1 H1 S1 s1 q1 us rv => ?_⟩
      split at q1
      · rename_i b xs h1
        obtain ⟨a1, vs, e1, l1, r1, len⟩ := S1.slotL h1
        rw [e0] at e1
        cases e1
        dsimp only at q1
        split at q1
        · rename_i k d
          split at q1
          · rename_i hl
            cases rv with
            | cons ra rr =>
              cases rr with
              | cons rb rr =>
                cases rr
                cases ra
                rename_i v
                refine ⟨_, vs, k, v, rfl, rfl, l1, by rw [len]; exact lim_lt (Nat.le_of_lt hl.1), hl.2.1, by omega, ?_⟩
                exact q1 σ F1 _ (S1.change h1 e0 l1 (dps_app (dps_app (dps_take _ r1) (dps_one rb)) (dps_drop _ r1))) (.refl _)
          · exact q1.elim
        · exact q1.elim
      · exact q1.elim
    · exact q.elim
/-- x[k] = e -/
def setAt (i : Nat) (k : D) (d : D) (e : En) : R Fl := ownAt i e fun b xs => match k with
  | .int k => match ixN xs.length k with
    | some j => .ok .nx (e.set i (.own b (xs.set j d)))
    | none => .bad
  | _ => .bad
def sStore (i : Nat) (fk f : M Sl) : MS := fun en => (vD f en).bind fun d e => ownAt i e fun _ _ => (vD fk e).bind fun k e2 => setAt i k d e2
theorem setAt_ok {K : PySem.W.Frag} {mg : Str → Option Value} {B : Bs} {σ : L2.St} {en : En} {F H : Hp} {Dn : Ends} {i : Nat} {k d : D} {y v : V} (S : Sim K B σ en F H) (rk : Dp K F y k) (rd : Dp K F v d) (p : PostS K mg B W F Dn (setAt i k d en)) :
    ∃ a, σ[i]? = some (some (.ref a)) ∧ rSetL (.ref a) y v H (fun H' => Dn.nx σ H') := by
  unfold setAt ownAt at p
  split at p
  · rename_i b xs h1
    obtain ⟨a1, vs, e1, l1, r1, len⟩ := S.slotL h1
    dsimp only at p
    split at p
    · rename_i z
      split at p
      · rename_i j hj
        cases rk
        exact ⟨a1, e1, a1, vs, z, j, rfl, rfl, l1, by rw [len]; exact hj, p σ F _ (S.change h1 e1 l1 (dps_set rd j r1)) (.refl _)⟩
      · exact p.elim
    · exact p.elim
  · exact p.elim
theorem vs_store {i : Nat} {ek : Expr} {p2 : Pos} (he : VE X W e f) (hk : VE X W ek fa) (hN : X.N[i]? = some x := by rfl) (hv : Vis X.env.scope x := by first | exact Or.inl rfl | exact Or.inr (Or.inl rfl)) (hd : (x == ("__debug__" : Str)) = false := by decide)
    (hcd : (x == ("__classdict__" : Str)) = false := by decide)
    (ha : ∀ v, assign (.Subscript (.Name x p) ek p2) X.env v = (do
      let ov ← holding [v] (eval (.Name x p) X.env)
      let iv ← holding [v, ov] (eval ek X.env)
      standAt p2
      holding [v, ov,
                                                                                                                    iv] (setItem ov iv v)
      release [v, ov, iv] []) := by intro _; rfl)
    (hs : swapsWithSole [.Subscript (.Name x p) ek p2] e pos.line X.env = pure false := by rfl) (hw : swappedStores [.Subscript (.Name x p) ek p2] e X.env = pure none := by rfl)
    (h1 : (assignEach [.Subscript (.Name x p) ek p2] X.env).map (·.2) = [assign (.Subscript (.Name x p) ek p2) X.env] := by rfl) :
    VS X W (.Assign [.Subscript (.Name x p) ek p2] e pos) (sStore i fa f) := fun B =>
  psWk (ps_asg (he.d B) (pg_sub (pe_var hN hv hd hcd) (hk.d B) set_list ha) hs hw h1) fun Dn σ H ⟨F, en, S, q⟩ => by
    refine ⟨F, en, S, (PostS.bind q).imp fun d en1 F1 H1 S1 s1 q1 v rv => ?_⟩
    unfold ownAt at q1
    split at q1
    · rename_i b0 xs0 h0
      obtain ⟨a0, vs0, e0, _⟩ := S1.slotL h0
      refine ⟨_, e0, F1, en1, S1, (PostS.bind q1).imp fun k en2 F2 H2 S2 s2 q2 y ry => ?_⟩
      obtain ⟨a, e1, z⟩ := setAt_ok S2 ry (dp_mono s2 rv) q2
      rw [e0] at e1
      cases e1
      exact z
    · exact q1.elim
end
end Mv

namespace Mv
open L2 PySem.Spec PySem PyProof.Rows

/-! ### list comprehensions -/
def W0 : WX := fun _ _ _ _ => False
def noX {α : Type} : R α → R α
  | .ok a e => .ok a e
  | _ => .bad
@[simp] theorem noX_ok {α : Type} (a : α) (e : En) : noX (.ok a e) = .ok a e := rfl
def wipeE (en : En) : List Nat → En
  | [] => en
  | v :: vs => (wipeE en vs).set v .no
/-- the entries at vs as they stood in e -/
def backE (E e : En) : List Nat → En
  | [] => E
  | v :: vs => (backE E e vs).set v (e.getD v .no)
def noOwn (e : En) : List Nat → Bool
  | [] => true
  | v :: vs => (match e[v]? with | some (.own _ _) => false | _ => true) && noOwn e vs
theorem noOwn_ok {e : En} : ∀ {vs : List Nat}, noOwn e vs = true → ∀ i ∈ vs, ¬ isOwn e i
  | v :: vs, h, i, hi, ⟨b, xs, ho⟩ => by
    simp only [noOwn, Bool.and_eq_true] at h
    rcases List.mem_cons.mp hi with rfl | hi
    · rw [ho] at h; exact absurd h.1 (by simp)
    · exact noOwn_ok h.2 i hi ⟨b, xs, ho⟩
theorem wipeE_len (e : En) : ∀ vs : List Nat, (wipeE e vs).length = e.length
  | [] => rfl
  | v :: vs => by unfold wipeE; rw [List.length_set, wipeE_len e vs]
theorem backE_len (E e : En) : ∀ vs : List Nat, (backE E e vs).length = E.length
  | [] => rfl
  | v :: vs => by unfold backE; rw [List.length_set, backE_len E e vs]
theorem wipeE_get {e : En} {i : Nat} : ∀ {vs : List Nat}, i ∉ vs → (wipeE e vs)[i]? = e[i]?
  | [], _ => rfl
  | v :: vs, h => by
    unfold wipeE
    rw [List.getElem?_set_ne (fun z => h (by simp [z])), wipeE_get (fun z => h (List.mem_cons_of_mem _ z))]
theorem wipeE_at {e : En} {i : Nat} {s : Sl} : ∀ {vs : List Nat}, i ∈ vs → (wipeE e vs)[i]? = some s → s = .no
  | v :: vs, h, hs => by
    unfold wipeE at hs
    rw [List.getElem?_set] at hs
    by_cases e' : v = i
    · rw [if_pos e'] at hs
      split at hs
      · exact (Option.some.inj hs).symm
      · cases hs
    · rw [if_neg e'] at hs
      exact wipeE_at ((List.mem_cons.mp h).resolve_left (Ne.symm e')) hs
theorem backE_get {E e : En} {i : Nat} : ∀ {vs : List Nat}, i ∉ vs → (backE E e vs)[i]? = E[i]?
  | [], _ => rfl
  | v :: vs, h => by
    unfold backE
    rw [List.getElem?_set_ne (fun z => h (by simp [z])), backE_get (fun z => h (List.mem_cons_of_mem _ z))]
theorem backE_at {E e : En} {i : Nat} {s : Sl} : ∀ {vs : List Nat}, i ∈ vs → (backE E e vs)[i]? = some s → s = e.getD i .no
  | v :: vs, h, hs => by
    unfold backE at hs
    rw [List.getElem?_set] at hs
    by_cases e' : v = i
    · rw [if_pos e'] at hs
      split at hs
      · rw [← e']; exact (Option.some.inj hs).symm
      · cases hs
    · rw [if_neg e'] at hs
      exact backE_at ((List.mem_cons.mp h).resolve_left (Ne.symm e')) hs
theorem wipe_getN {σ : L2.St} {i : Nat} : ∀ {vs : List Nat}, i ∉ vs → (wipe σ vs)[i]? = σ[i]?
  | [], _ => rfl
  | v :: vs, h => by
    unfold wipe
    rw [List.getElem?_set_ne (fun z => h (by simp [z])), wipe_getN (fun z => h (List.mem_cons_of_mem _ z))]

theorem wipe_at2 {σ : L2.St} {i : Nat} : ∀ {vs : List Nat}, i ∈ vs → (wipe σ vs)[i]? = if i < σ.length then some none else none
  | v :: vs, h => by
    unfold wipe
    rw [List.getElem?_set]
    by_cases e' : v = i
    · subst e'; rw [if_pos rfl, wipe_length]
    · rw [if_neg e']
      exact wipe_at2 ((List.mem_cons.mp h).resolve_left (Ne.symm e'))
theorem wipe_wipe (σ : L2.St) (vs : List Nat) : wipe (wipe σ vs) vs = wipe σ vs := by
  refine List.ext_getElem? fun i => ?_
  by_cases h : i ∈ vs
  · rw [wipe_at2 h, wipe_at2 h, wipe_length]
  · rw [wipe_getN h]
/-- a further thing that is to be kept: the list that a comprehension makes, or a list handed on -/
def Bs.more (B : Bs) (F : Hp) (a : Addr) (vs : List V) : Bs := ⟨F, upd B.Kp a (.lst vs), fun c => B.Z c ∨ c = a, B.io⟩
section
variable {K : PySem.W.Frag} {B : Bs} {σ : L2.St} {en : En} {F F0 H : Hp} {a : Addr} {us : List V}
theorem Sim.under (S : Sim K B σ en F H) (h0 : Same F0 F) (h0n : ∀ c o, F c = some o → F0 c = some o ∨ (¬ B.Z c ∧ c ≠ a)) (h1 : H a = some (.lst us)) (h3 : ∀ i, isOwn en i → σ[i]? ≠ some (some (.ref a))) : Sim K (B.more F0 a us) σ en F H := by
  refine ⟨S.len, S.sub, h0, fun c o e => ?_, fun c o e => ?_, fun c z e => ?_, S.val, fun i b xs e => ?_, S.apart⟩
  · rcases h0n c o e with q | ⟨q1, q2⟩
    · exact .inl q
    · exact .inr fun z => z.elim q1 q2
  · have e' : upd B.Kp a (.lst us) c = some o := e
    by_cases hc : c = a
    · subst hc; rw [upd_same] at e'; cases e'; exact h1
    · rw [upd_ne hc] at e'; exact S.kp _ _ e'
  · rcases z with z | z
    · exact S.z c z e
    · rw [z, h1] at e; cases e
  · obtain ⟨c, vs, e1, e2, e3, e4, e5, e6, e7⟩ := S.own i b xs e
    have hca : c ≠ a := fun z => h3 i ⟨_, _, e⟩ (z ▸ e1)
    refine ⟨c, vs, e1, e2, e3, e4, ?_, fun hb z => ?_, e7⟩
    · show upd B.Kp a (.lst us) c = none
      rw [upd_ne hca]; exact e5
    · exact z.elim (e6 hb) hca
/-- out of it again -/
theorem Sim.outer (S : Sim K (B.more F0 a us) σ en F H) (h0 : Same B.F F0) (h0n : ∀ c o, F0 c = some o → B.F c = some o ∨ ¬ B.Z c) (hk : B.Kp a = none) (h0a : F0 a = none) :
    Sim K B σ en F H ∧ H a = some (.lst us) ∧ F a = none ∧ (∀ i, isOwn en i → σ[i]? ≠ some (some (.ref a))) := by
  have ow : ∀ (i : Nat) (b : Bool) (xs : List D), en[i]? = some (Sl.own b xs) → ∃ (c : Addr) (vs : List V), σ[i]? = some (some (V.ref c)) ∧ H c = some (.lst vs) ∧ F c = none ∧ DpAll K F vs xs ∧ (B.Kp c = none ∧ c ≠ a) ∧ (b = false → ¬ B.Z c) ∧ (b = true → B.io c) := fun i b xs e => by
    obtain ⟨c, vs, e1, e2, e3, e4, e5, e6, e7⟩ := S.own i b xs e
    have e5' : upd B.Kp a (.lst us) c = none := e5
    have hca : c ≠ a := fun z => by rw [z, upd_same] at e5'; cases e5'
    rw [upd_ne hca] at e5'
    exact ⟨c, vs, e1, e2, e3, e4, ⟨e5', hca⟩, fun hb z => e6 hb (.inl z), e7⟩
  refine ⟨⟨S.len, S.sub, h0.trans S.f0, fun c o e => ?_, fun c o e => ?_, fun c z => S.z c (.inl z), S.val, fun i b xs e => ?_, S.apart⟩, ?_, ?_, fun i hi e => ?_⟩
  · rcases S.new c o e with q | q
    · exact h0n c o q
    · exact .inr fun z => q (.inl z)
  · exact S.kp c o (show upd B.Kp a (.lst us) c = some o by rw [upd_ne (fun z => by rw [z, hk] at e; cases e)]; exact e)
  · obtain ⟨c, vs, e1, e2, e3, e4, e5, e6⟩ := ow i b xs e
    exact ⟨c, vs, e1, e2, e3, e4, e5.1, e6⟩
  · exact S.kp a _ (show upd B.Kp a (.lst us) a = _ from upd_same)
  · cases q : F a with
    | none => rfl
    | some o =>
      rcases S.new a o q with z | z
      · have z' : F0 a = some o := z
        rw [h0a] at z'; cases z'
      · exact absurd (.inr rfl) z
  · obtain ⟨b, xs, hi⟩ := hi
    obtain ⟨c, vs, e1, _, _, _, e5, _⟩ := ow i b xs hi
    rw [e] at e1; cases e1
    exact e5.2 rfl
theorem Sim.wiped (S : Sim K B σ en F H) (vs : List Nat) : Sim K B (wipe σ vs) (wipeE en vs) F H := by
  have key : ∀ j s, (wipeE en vs)[j]? = some s → s = .no ∨ (j ∉ vs ∧ en[j]? = some s) := fun j s h => by
    by_cases hj : j ∈ vs
    · exact .inl (wipeE_at hj h)
    · exact .inr ⟨hj, by rw [wipeE_get hj] at h; exact h⟩
  refine ⟨by rw [wipe_length, wipeE_len]; exact S.len, S.sub, S.f0, S.new, S.kp, S.z, fun j d h => ?_, fun j b xs h => ?_, fun j k c hjk hj hk e1 e2 => ?_⟩
  · rcases key j _ h with z | ⟨n, z⟩
    · cases z
    · obtain ⟨v, q⟩ := S.val j d z
      exact ⟨v, by rw [wipe_getN n]; exact q.1, q.2⟩
  · rcases key j _ h with z | ⟨n, z⟩
    · cases z
    · obtain ⟨c, ws, q⟩ := S.own j b xs z
      exact ⟨c, ws, by rw [wipe_getN n]; exact q.1, q.2⟩
  · obtain ⟨b, xs, hj⟩ := hj
    obtain ⟨b2, xs2, hk⟩ := hk
    rcases key j _ hj with z | ⟨n, z⟩
    · cases z
    · rcases key k _ hk with z2 | ⟨n2, z2⟩
      · cases z2
      · rw [wipe_getN n] at e1
        rw [wipe_getN n2] at e2
        exact S.apart j k c hjk ⟨_, _, z⟩ ⟨_, _, z2⟩ e1 e2
theorem Sim.back {E : En} {vs : List Nat} (S : Sim K B (wipe σ vs) E F H) (hl : σ.length = en.length) (ho : ∀ i ∈ vs, ¬ isOwn en i) (hv : ∀ i ∈ vs, ∀ d, en[i]? = some (.val d) → ∃ v, σ[i]? = some (some v) ∧ Dp K F v d) : Sim K B σ (backE E en vs) F H := by
  have key : ∀ j s, (backE E en vs)[j]? = some s → (j ∈ vs ∧ s = en.getD j .no) ∨ (j ∉ vs ∧ E[j]? = some s) := fun j s h => by
    by_cases hj : j ∈ vs
    · exact .inl ⟨hj, backE_at hj h⟩
    · exact .inr ⟨hj, by rw [backE_get hj] at h; exact h⟩
  have old : ∀ j s, s ≠ .no → s = en.getD j .no → en[j]? = some s := fun j s hn e => by
    rw [List.getD_eq_getElem?_getD] at e
    cases q : en[j]? with
    | none => rw [q] at e; exact absurd e hn
    | some t => rw [q] at e; rw [e]; rfl
  refine ⟨?_, S.sub, S.f0, S.new, S.kp, S.z, fun j d h => ?_, fun j b xs h => ?_, fun j k c hjk hj hk e1 e2 => ?_⟩
  · rw [backE_len, ← S.len, wipe_length]
  · rcases key j _ h with ⟨m, z⟩ | ⟨n, z⟩
    · exact hv j m d (old j _ (fun q => by cases q) z)
    · obtain ⟨v, q⟩ := S.val j d z
      exact ⟨v, by rw [wipe_getN n] at q; exact q.1, q.2⟩
  · rcases key j _ h with ⟨m, z⟩ | ⟨n, z⟩
    · exact absurd ⟨b, xs, old j _ (fun q => by cases q) z⟩ (ho j m)
    · obtain ⟨c, ws, q⟩ := S.own j b xs z
      exact ⟨c, ws, by rw [wipe_getN n] at q; exact q.1, q.2⟩
  · obtain ⟨b, xs, hj⟩ := hj
    obtain ⟨b2, xs2, hk⟩ := hk
    rcases key j _ hj with ⟨m, z⟩ | ⟨n, z⟩
    · exact ho j m ⟨b, xs, old j _ (fun q => by cases q) z⟩
    · rcases key k _ hk with ⟨m, z2⟩ | ⟨n2, z2⟩
      · exact ho k m ⟨b2, xs2, old k _ (fun q => by cases q) z2⟩
      · rw [← wipe_getN n] at e1
        rw [← wipe_getN n2] at e2
        exact S.apart j k c hjk ⟨_, _, z⟩ ⟨_, _, z2⟩ e1 e2
end

/-- the turns of a comprehension -/
def lcL (pat : D → En → Option En) (tt : M Bool) (el : M Sl) (vs : List Nat) : List D → En → R (List D)
  | [], e => .ok [] e
  | d :: ds, e => match pat d e with
    | none => .bad
    | some e1 => (noX (tt e1)).bind fun b e2 => if b = true then (noX (vD el e2)).bind fun y e3 => (lcL pat tt el vs ds (wipeE e3 vs)).bind fun ys e4 => .ok (y :: ys) e4 else lcL pat tt el vs ds (wipeE e2 vs)
def vLc (it : M (List D)) (pat : D → En → Option En) (tt : M Bool) (el : M Sl) (vs : List Nat) : M Sl := fun en => (it en).bind fun xs e => if noOwn e vs = true ∧ xs.length ≤ LIM then
  (match lcL pat tt el vs xs (wipeE e vs) with
    | .ok ys e' => .ok (.own false ys) (backE e' e vs)
    | _ => .bad) else .bad
/-- one turn's reading in the block -/
def VTs (X : Cx) (W : WX) (ifs : List Expr) (f : M Bool) : Prop := ∀ B, PTs X ifs (tBl X.K X.mg B W f)
def bYes : M Bool := fun en => .ok true en
section
variable {X : Cx} {W : WX}
theorem ptsWk {ifs : List Expr} {t t' : TT} (h : PTs X ifs t) (w : ∀ σ H Q, t' σ H Q → t σ H Q) : PTs X ifs t' := ⟨fun pins s σ H Q I q => h.run pins s σ H Q I (w _ _ _ q)⟩
theorem vts_nil : VTs X W [] bYes := fun B => ptsWk pts_nil fun σ H Q ⟨F, en, S, p⟩ => p F H S (.refl _)
theorem vts_one {c : Expr} {f : M Bool} (h : VB X W c f) : VTs X W [c] f := fun B => pts_one (h B)
variable {elt tg iter : Expr} {ifs : List Expr} {scope : Scope} {own : List (Str × Nat)} {pos : Pos} {it : M (List D)} {pat : D → En → Option En} {tt : M Bool} {el : M Sl}
/-- the reading of a comprehension, from those of its parts -/
theorem rd_lc {K : PySem.W.Frag} {mg : Str → Option Value} {B : Bs} {vs : List Nat} {wi : TI} {g : TG} {tb : TT} {te : TE} {σ : L2.St} {H : Hp} {Q : VK}
    (hwi : ∀ R, tI K mg B W it σ H R → wi σ H R) (hg : ∀ B v σ H Q, tG K B vs pat v σ H Q → g v σ H Q) (ht : ∀ B σ H Q, tBl K mg B W0 tt σ H Q → tb σ H Q) (he : ∀ B σ H Q, tD K mg B W0 (vD el) σ H Q → te σ H Q)
    (h : tV K mg B W (vLc it pat tt el vs) σ H Q) : tLc wi g tb te vs σ H Q := by
  obtain ⟨F, en, S, p⟩ := h
  refine hwi _ ⟨F, en, S, (Post.bind p).imp fun xs en1 F1 H1 S1 s1 q J wk Dd hD => ?_⟩
  obtain ⟨G, Y, wlk, hG, hY⟩ := wk
  split at q
  · rename_i hh
    obtain ⟨hno, hlim⟩ := hh
    have hF1 : F1 Dd = none := S1.sub.free hD
    have hKD : B.Kp Dd = none := S1.kp.free hD
    have hZD : ¬ B.Z Dd := fun z => S1.z Dd z hD
    cases hr : lcL pat tt el vs xs (wipeE en1 vs) with
    | exc c fs e => rw [hr] at q; exact q.elim
    | bad => rw [hr] at q; exact q.elim
    | ok YS E' =>
      rw [hr] at q
      -- between two turns
      let Pv : Nat → Hp → Prop := fun i H2 => ∃ F2 en2 acc accD ys, Sim K (B.more F1 Dd acc) (wipe σ vs) en2 F2 H2 ∧ DpAll K F2 acc accD ∧ accD.length ≤ i ∧ lcL pat tt el vs (xs.drop i) en2 = .ok ys E' ∧ accD ++ ys = YS
      have h0 : Pv 0 (upd H1 Dd (.lst [])) := by
        refine ⟨F1, wipeE en1 vs, [], [], YS, ?_, .nil, Nat.le_refl _, by rw [List.drop_zero]; exact hr, rfl⟩
        have S2 := (S1.gr (Gr.made (o := .lst []) S1.sub hD)).wiped vs
        refine S2.under (.refl _) (fun c o e => .inl e) upd_same fun i hi e => ?_
        obtain ⟨b, zs, hi⟩ := hi
        obtain ⟨c, ws, e1, e2, _⟩ := (S1.wiped vs).own i b zs hi
        rw [e] at e1; cases e1
        rw [hD] at e2; cases e2
      refine lc_it wlk Pv h0 (fun i H2 _ ⟨F2, en2, acc, accD, ys, S2, _⟩ => hG F2 H2 S2.f0 S2.sub ((same_upd hKD).trans S2.kp)) (fun i x H2 H3 hi pv y => ?_) fun H2 pv => ?_
      · obtain ⟨F2, en2, acc, accD, ys, S2, ra, hla, hl, hys⟩ := pv
        obtain ⟨F3, gr, d, hd, dv⟩ := hY i F2 H2 x H3 hi S2.f0 S2.sub ((same_upd hKD).trans S2.kp) y
        have e1 : xs.drop i = d :: xs.drop (i + 1) := by
          rw [List.drop_eq_getElem_cons hi]
          rw [List.getElem?_eq_getElem hi] at hd
          rw [Option.some.inj hd]
        rw [e1] at hl
        unfold lcL at hl
        have S3 := S2.gr gr
        cases hpt : pat d en2 with
        | none => rw [hpt] at hl; cases hl
        | some e3 =>
          rw [hpt] at hl
          dsimp only at hl
          refine hg _ x _ _ _ ⟨F3, en2, d, S3, dv, e3, hpt, fun σ4 S4 w4 => ⟨w4.trans (wipe_wipe σ vs), ?_⟩⟩
          have w5 : wipe σ4 vs = wipe σ vs := w4.trans (wipe_wipe σ vs)
          refine ht (B.more F1 Dd acc) σ4 H3 _ ⟨F3, e3, S4, ?_⟩
          cases hb : tt e3 with
          | exc c fs e => rw [hb] at hl; cases hl
          | bad => rw [hb] at hl; cases hl
          | ok b e4 =>
            rw [hb] at hl
            simp only [noX_ok, R.bind_ok] at hl
            intro F5 H5 S5 s5
            cases b with
            | false =>
              rw [if_neg Bool.false_ne_true] at hl ⊢
              have S6 := S5.wiped vs
              rw [w5] at S6
              exact ⟨F5, wipeE e4 vs, acc, accD, ys, S6, dps_mono (gr.ff.trans s5) ra, Nat.le_succ_of_le hla, hl, hys⟩
            | true =>
              rw [if_pos rfl] at hl ⊢
              refine he (B.more F1 Dd acc) σ4 H5 _ ⟨F5, e4, S5, ?_⟩
              cases hel : vD el e4 with
              | exc c fs e => rw [hel] at hl; cases hl
              | bad => rw [hel] at hl; cases hl
              | ok y5 e5 =>
                rw [hel] at hl
                simp only [noX_ok, R.bind_ok] at hl
                intro F7 H7 S7 s7 v7 r7
                cases hrest : lcL pat tt el vs (xs.drop (i + 1)) (wipeE e5 vs) with
                | exc c fs e => rw [hrest] at hl; cases hl
                | bad => rw [hrest] at hl; cases hl
                | ok ys2 E2 =>
                  rw [hrest] at hl
                  simp only [R.bind_ok, R.ok.injEq] at hl
                  obtain ⟨rfl, rfl⟩ := hl
                  obtain ⟨S8, hD8, hF8, hn8⟩ := S7.outer (h0 := S1.f0) (h0n := S1.new) hKD hF1
                  have hlen : acc.length = accD.length := dps_len ra
                  refine ⟨acc, hD8, by rw [hlen]; exact lim_lt (by omega), F7, wipeE e5 vs, acc ++ [v7], accD ++ [y5], ys2, ?_, dps_app (dps_mono (gr.ff.trans (s5.trans s7)) ra) (dps_one r7), by rw [List.length_append, List.length_singleton]; omega, hrest, by rw [List.append_assoc]; exact hys⟩
                  have S9 : Sim K B σ4 e5 F7 (upd H7 Dd (.lst (acc ++ [v7]))) := by
                    refine ⟨S8.len, same_upd2 S8.sub hF8, S8.f0, S8.new, same_upd2 S8.kp hKD, fun c z => ?_, S8.val, fun k b zs hk => ?_, S8.apart⟩
                    · rw [upd_ne (fun (e : c = Dd) => hZD (by rw [← e]; exact z))]; exact S8.z c z
                    · obtain ⟨c, ws, q1, q2, q3⟩ := S8.own k b zs hk
                      refine ⟨c, ws, q1, ?_, q3⟩
                      rw [upd_ne (fun (e : c = Dd) => hn8 k ⟨_, _, hk⟩ (by rw [← e]; exact q1))]
                      exact q2
                  have S10 := S9.wiped vs
                  rw [w5] at S10
                  refine S10.under S7.f0 (fun c o e => ?_) upd_same fun k hk e => ?_
                  · rcases S7.new c o e with z | z
                    · exact .inl z
                    · exact .inr ⟨fun w => z (.inl w), fun w => z (.inr w)⟩
                  · obtain ⟨b, zs, hk⟩ := hk
                    have hkv : k ∉ vs := fun m => by
                      have := wipeE_at m hk
                      cases this
                    rw [wipeE_get hkv] at hk
                    rw [← w5, wipe_getN hkv] at e
                    exact hn8 k ⟨_, _, hk⟩ e
      · obtain ⟨F2, en2, acc, accD, ys, S2, ra, hla, hl, hys⟩ := pv
        rw [List.drop_length] at hl
        unfold lcL at hl
        simp only [R.ok.injEq] at hl
        obtain ⟨rfl, rfl⟩ := hl
        rw [List.append_nil] at hys
        subst hys
        obtain ⟨S3, hD3, hF3, hn3⟩ := S2.outer (h0 := S1.f0) (h0n := S1.new) hKD hF1
        have S4 : Sim K B σ (backE en2 en1 vs) F2 H2 := S3.back S1.len (noOwn_ok hno) fun i hi d hd => by
          obtain ⟨v, q1, q2⟩ := S1.val i d hd
          exact ⟨v, q1, dp_mono S2.f0 q2⟩
        refine q F2 H2 S4 S2.f0 (.ref Dd) ⟨rfl, Dd, acc, rfl, hD3, hF3, ra, hKD, hZD, fun i hi e => ?_⟩
        obtain ⟨b, zs, hi⟩ := hi
        by_cases hiv : i ∈ vs
        · have z := backE_at hiv hi
          refine noOwn_ok hno i hiv ⟨b, zs, ?_⟩
          rw [List.getD_eq_getElem?_getD] at z
          cases q5 : en1[i]? with
          | none => rw [q5] at z; cases z
          | some t => rw [q5] at z; rw [z]; rfl
        · rw [backE_get hiv] at hi
          rw [← wipe_getN hiv] at e
          exact hn3 i ⟨_, _, hi⟩ e
  · exact q.elim
end
end Mv

namespace Mv
open L2 PySem.Spec PySem PyProof.Rows

section
variable {X : Cx} {W : WX} {elt tg iter : Expr} {ifs : List Expr} {scope : Scope} {own : List (Str × Nat)} {pos : Pos} {it : M (List D)} {pat : D → En → Option En} {tt : M Bool} {el : M Sl}
theorem pgBlk {sh : Shared} {Hq : Hp} {ce : Env} {fp : List Addr} {e : Expr} {vs : List Nat} {g : D → En → Option En} (h : VG (X.blk sh Hq scope ce fp) e vs g) : PG (X.blk sh Hq scope ce fp) e (fun v σ H Q => ∃ B, tG X.K B vs g v σ H Q) := ⟨fun pins s σ H v u Q I r ⟨B, q⟩ => (h B).run pins s σ H v u Q I r q⟩
theorem ptsBlk {sh : Shared} {Hq : Hp} {ce : Env} {fp : List Addr} {fs : List Expr} {t : M Bool} (h : VTs (X.blk sh Hq scope ce fp) W0 fs t) : PTs (X.blk sh Hq scope ce fp) fs (fun σ H Q => ∃ B, tBl X.K X.mg B W0 t σ H Q) := ⟨fun pins s σ H Q I ⟨B, q⟩ => (h B).run pins s σ H Q I q⟩
theorem peBlk {sh : Shared} {Hq : Hp} {ce : Env} {fp : List Addr} {e : Expr} {f : M Sl} (h : VE (X.blk sh Hq scope ce fp) W0 e f) : PE (X.blk sh Hq scope ce fp) e (fun σ H Q => ∃ B, tD X.K X.mg B W0 (vD f) σ H Q) := ⟨fun pins s σ H Q I ⟨B, q⟩ => (h.d B).run pins s σ H Q I q⟩
theorem ve_lc (own : List (Str × Nat)) (hc : X.calm = true) (hN : X.N.Nodup) (ok : BlkOk X.N X.env.scope scope own) (hi : VI X W tg iter it)
    (hg : ∀ (s : Shared) (H : Hp) (C : Addr) (cl : List (Str × Addr)) (fp : List Addr), VG (X.blk s H scope (compEnvC scope cl C X.env) fp) tg (own.map (·.2)) pat)
    (ht : ∀ (s : Shared) (H : Hp) (C : Addr) (cl : List (Str × Addr)) (fp : List Addr), VTs (X.blk s H scope (compEnvC scope cl C X.env) fp) W0 ifs tt)
    (he : ∀ (s : Shared) (H : Hp) (C : Addr) (cl : List (Str × Addr)) (fp : List Addr), VE (X.blk s H scope (compEnvC scope cl C X.env) fp) W0 elt el) (hs : ∀ x, foldedSetIterable iter X.env x = pure x := by intro _; rfl) :
    VE X W (.ListComp elt [⟨tg, iter, ifs, 0⟩] scope pos) (vLc it pat tt el (own.map (·.2))) := fun B =>
  peWk (pe_lc hc hN (hi B) ok (fun s H C cl fp => pgBlk (hg s H C cl fp)) (fun s H C cl fp => ptsBlk (ht s H C cl fp)) (fun s H C cl fp => peBlk (he s H C cl fp)) hs) fun σ H Q h =>
    rd_lc (fun _ h => h) (fun B _ _ _ _ h => ⟨B, h⟩) (fun B _ _ _ h => ⟨B, h⟩) (fun B _ _ _ h => ⟨B, h⟩) h
/-- name = [..], on one line -/
theorem vs_setLc {i : Nat} {y : Str} {py spos : Pos} (own : List (Str × Nat)) (hc : X.calm = true) (hN : X.N.Nodup) (hsw : swapsWith (.ListComp elt [⟨tg, iter, ifs, 0⟩] scope pos) (some (.Name y py)) spos.line X.env = pure true) (hyl : X.env.scope.names.lookup y = some .local)
    (ok : BlkOk X.N X.env.scope scope own) (hi : VI X W tg iter it)
    (hg : ∀ (s : Shared) (H : Hp) (C : Addr) (cl : List (Str × Addr)) (fp : List Addr), VG (X.blk s H scope (compEnvC scope cl C X.env) fp) tg (own.map (·.2)) pat)
    (ht : ∀ (s : Shared) (H : Hp) (C : Addr) (cl : List (Str × Addr)) (fp : List Addr), VTs (X.blk s H scope (compEnvC scope cl C X.env) fp) W0 ifs tt)
    (he : ∀ (s : Shared) (H : Hp) (C : Addr) (cl : List (Str × Addr)) (fp : List Addr), VE (X.blk s H scope (compEnvC scope cl C X.env) fp) W0 elt el) (hy : X.N[i]? = some y := by rfl) (hs : ∀ x, foldedSetIterable iter X.env x = pure x := by intro _; rfl) :
    VS X W (.Assign [.Name y py] (.ListComp elt [⟨tg, iter, ifs, 0⟩] scope pos) spos) (sSet i (vLc it pat tt el (own.map (·.2)))) := fun B =>
  psWk (ps_setLc hc hN hy hyl hsw (hi B) ok (fun s H C cl fp => pgBlk (hg s H C cl fp)) (fun s H C cl fp => ptsBlk (ht s H C cl fp)) (fun s H C cl fp => peBlk (he s H C cl fp)) hs) fun Dn σ H ⟨F, en, S, p⟩ =>
    rd_lc (fun _ h => h) (fun B _ _ _ _ h => ⟨B, h⟩) (fun B _ _ _ h => ⟨B, h⟩) (fun B _ _ _ h => ⟨B, h⟩) ⟨F, en, S, (PostS.bind p).imp fun r en1 F1 H1 S1 s1 q v rv => q _ F1 H1 (S1.store rv) (.refl _)⟩
end

/-! ### calls of defs -/
inductive Out where
  | ret (r : Sl)
  | exc (c : Str) (fs : List (Str × D))
def spV (K : PySem.W.Frag) (mg : Str → Option Value) (m : List D → Option Out) : Sp := fun vs H Q E => ∃ F ds, Same F H ∧ DpAll K F vs ds ∧ match m ds with
  | some (.ret r) => ∀ F' H' v, Gr F H F' H' → RlF K F' H H' v r → Q v H'
  | some (.exc c fs) => ∀ F' H' cls d, Gr F H F' H' → RX K mg F' H' c fs cls d → E cls d H'
  | none => False
/-- room, and no repr under way -/
structure RoomG (k : Nat) (A : Around) : Prop where
  r : Room k A
  g : A.guards = some []
theorem RoomG.mono {j k : Nat} {A : Around} (h : RoomG k A) (le : j ≤ k) : RoomG j A := ⟨h.r.mono le, h.g⟩
/-- a def keeps a promise, where no repr is under way -/
structure FnG (P : Program) (w : World) (K : PySem.W.Frag) (mg : Str → Option Value) (base : Heap) (k : Nat) (f : Addr) (fd : FuncData) (ps : List Str) (sp : Sp) : Prop where
  len : ∀ vs H Q E,
                                                                                                                sp vs H Q E → vs.length = ps.length
  run : ∀ (A : Around) (outer : List Env) (s : Shared) (H : Hp) (args : Args) (us : List Value) (vs : List V) (Q : VK) (E : XK), RoomG k A → Env0 P w K mg base A outer s H → BindsTo s fd args (ps.zip us) → Vals vs us →
    sp vs H Q E → codeAny (model P w) A (.call (.ref f) args) (CR (L2.CX P w) outer P w H s Q E) s
theorem FnG.mono {P : Program} {w : World} {K : PySem.W.Frag} {mg : Str → Option Value} {base : Heap} {j k : Nat} {f : Addr} {fd : FuncData} {ps : List Str} {sp : Sp} (F : FnG P w K mg base j f fd ps sp) (le : j ≤ k) : FnG P w K mg base k f fd ps sp :=
  ⟨F.len, fun A outer s H args us vs Q E hr => F.run A outer s H args us vs Q E (hr.mono le)⟩
section
variable {X : Cx} {k : Nat} {f : Addr} {fd : FuncData} {ps : List Str} {sp : Sp} {E : L2.St → XK} {x : Str} {p pos : Pos} {e : Expr} {es : List Expr} {t : TA}
theorem runG {pins : List (Addr × Obj)} {σ : L2.St} {H : Hp} {s : Shared} {Q : VK} {us : List Value} {vs : List V} (F : FnG X.prog X.w X.K X.mg X.base k f fd ps sp) (hr : RoomG k X.A) (hb : Binds X.K fd ps []) (hx : PassesAt (L2.CX X.prog X.w) X σ (E σ))
    (I : Inv X pins σ H s) (r : Vals vs us) (h : sp vs H Q (E σ)) : wpAny
                                                                                                                  (model X.prog X.w) X.A (call (.ref f) us) (EP X pins σ Q) X.xe s := by
  have hl : us.length = ps.length := r.length.symm.trans (F.len _ _ _ _ h)
  have bd := hb s us I.kIn (by rw [List.append_nil]; exact hl)
  rw [List.append_nil] at bd
  refine wpAny_call (codeAny_mono (F.run X.A X.stack s H ⟨us, []⟩ us vs Q (E σ) hr I.env0 bd r h) fun res s2 hq => ?_)
  rcases res with e | (u | _ | _ | _) <;> first | exact hx pins H s _ s2 I hq | exact I.after hq | exact False.elim hq
theorem pe_callG (F : FnG X.prog X.w X.K X.mg X.base k f fd ps sp) (hr : RoomG k X.A) (hg : Gl X x) (hm : X.mg x = some (.ref f)) (hk : PySem.W.keepIn X.K (.ref f) = true) (hb : Binds X.K fd ps []) (hx : ∀ σ, PassesAt (L2.CX X.prog X.w) X σ (E σ))
    (ha : PA X (e :: es) t) (hdb : (x == ("__debug__" : Str)) = false) (he : starEach (e :: es) X.env = (false, eval e X.env) :: starEach es X.env) (hpl : (backTo pos (starEach es X.env)).any (·.1) = false) :
    PE X (.Call (.Name x p) (e :: es) [] pos) (tCallS sp E t) := ⟨fun pins s σ H Q I h => wpAny_Call_Name_kw (ld_glob I hg hm
      (PySem.W.callWith_K (h₀ := X.base) I.ok.mod.kin hk (thn (ha.run pos pins s σ H _ I h) fun us s1 ⟨vs, H1, I1, r, q⟩ => ⟨I1.kIn, runG F hr hb (hx σ) I1 r q⟩) he hpl) hdb)⟩
theorem fnG_of {P : Program} {w : World} {K : PySem.W.Frag} {mg : Str → Option Value} {base : Heap} {x qual : Str} {st : Stmt} {N : List Str} (F : Fun K x qual st f fd) (S : FnScope N ps (defScope st)) (len : ∀ vs H Q E, sp vs H Q E → vs.length = ps.length)
    (hbody : ∀ (cdv : Value) (A : Around) (outer : List Env) (s : Shared) (H : Hp) (vs : List V) (Q : VK) (E : XK), RoomG k (A.deeper (envOfC qual (defScope st) s.heap.objs.size f cdv)) → sp vs H Q E →
      ∃ t, PSs (cxOf (L2.CX P w) P w K mg base N qual (defScope st) f cdv A outer s H E) (defBody st) t ∧ t { nx := fun _ H' => Q .non H', rt := Q } (L2.start N vs) H) : FnG P w K mg base (k + 1) f fd ps sp := by
  obtain ⟨oc, od, kV, dc, pm, an, cdv, ct, osl, rfl, lk, hcd⟩ := F.ex
  refine ⟨len,
                                                                                                                fun A outer s H args us vs Q E hr e0 hb r hsp => ?_⟩
  have hl := len _ _ _ _ hsp
  have keep : ∀ b o, base.get? b = some o → s.heap.get? b = some o := fun b o e => (e0.bs b o e).1
  have lim : s.heap.NoLimit := e0.mod.nolimit.keeps keep
  have KX : K.In s.heap := e0.mod.kin.keeps keep
  refine codeAny_call_function hr.r.depth (KX _ _ lk) rfl S.co S.gen rfl (PySem.W.codeRec_of KX hcd) (hb _ _ _ _ ?_)
  refine wpAny_newFunctionEnv_cells S.kind (fun y hy => ?_) fun env he s1 x => ?_
  · obtain ⟨n, v⟩ := y
    exact (S.par n (List.of_mem_zip hy).1).imp id fun q => ⟨q, PySem.W.cellsFrom_some _ _ _ (.inl q)⟩
  subst he
  obtain ⟨t, ht, hq⟩ := hbody cdv A outer s H vs Q E ⟨hr.r.deeper _, hr.g⟩ hsp
  refine ⟨lim.keeps x.toInCall.keep, codeAny_func (wpAny_mono (ht.run [] s1 _ H _ (inv_start S hr.r.hd e0 hl r x) hq) (fun fl s2 hs => ?_) fun _ _ h => h)⟩
  rcases fl with u | _ | _ | _
  all_goals first
    | (obtain ⟨v, σ', H', J, rv, q⟩ := hs; exact ⟨v, H', J.os, J.bare, J.base, J.hok, rv, q⟩)
    | (obtain ⟨σ', H', J, q⟩ := hs; exact False.elim q)
    | (obtain ⟨σ', H', J, q⟩ := hs; exact ⟨V.non, H', J.os, J.bare, J.base, J.hok, rfl, q⟩)
end
structure FnV (P : Program) (w : World) (K : PySem.W.Frag) (mg : Str → Option Value) (base : Heap) (x : Str) (k : Nat) (m : List D → Option Out) : Prop where
  ex : ∃ (f : Addr) (fd : FuncData) (ps : List Str), FnG P w K mg base k f fd ps (spV K mg m) ∧ mg x = some (.ref f) ∧ PySem.W.keepIn K (.ref f) = true ∧ Binds K fd ps []
theorem FnV.mono {P : Program} {w : World} {K : PySem.W.Frag} {mg : Str → Option Value} {base : Heap} {x : Str} {j k : Nat} {m : List D → Option Out} (F : FnV P w K mg base x j m) (h : j ≤ k) : FnV P w K mg base x k m :=
  let ⟨f, fd, ps, h1, h2⟩ := F.ex
  ⟨f, fd, ps, h1.mono h, h2⟩
/-- the bag: a list that the callee changes, its first argument -/
structure GrB (b : Addr) (F H F' H' : Hp) : Prop where
  ff : Same F F'
  fh : Same F' H'
  hh : ∀ a o, a ≠ b → H a = some o → H' a = some o
  nw : ∀ a o, F' a = some o → F a = some o ∨ H a = none
def spB (K : PySem.W.Frag) (mg : Str → Option Value) (m : List D → List D → Option (Out × List D)) : Sp := fun vs H Q E => ∃ (b : Addr) (vs' ws : List V) (xs : List D) (F : Hp) (ds : List D),
  vs = .ref b :: vs' ∧ H b = some (.lst ws) ∧ F b = none ∧ Same F H ∧ DpAll K F ws xs ∧ DpAll K F vs' ds ∧ match m xs ds with
  | some (.ret r, ys) => ∀ F' H' v ws', GrB b F H F' H' → H' b = some (.lst ws') → DpAll K F' ws' ys → RlF K F' H H' v r → Q v H'
  | some (.exc c fs, ys) => ∀ F' H' cls d ws', GrB b F H F' H' → H' b = some (.lst ws') → DpAll K F' ws' ys → RX K mg F' H' c fs cls d → E cls d H'
  | none => False
structure FnB (P : Program) (w : World) (K : PySem.W.Frag) (mg : Str → Option Value) (base : Heap) (x : Str) (k : Nat) (m : List D → List D → Option (Out × List D)) : Prop where
  ex : ∃ (f : Addr) (fd : FuncData) (ps : List Str), FnG P w K mg base k f fd ps (spB K mg m) ∧ mg x = some (.ref f) ∧ PySem.W.keepIn K (.ref f) = true ∧ Binds K fd ps []
theorem FnB.mono {P : Program} {w : World} {K : PySem.W.Frag} {mg : Str → Option Value} {base : Heap} {x : Str} {j k : Nat} {m : List D → List D → Option (Out × List D)} (F : FnB P w K mg base x j m) (h : j ≤ k) : FnB P w K mg base x k m :=
  let ⟨f, fd, ps, h1, h2⟩ := F.ex
  ⟨f, fd, ps, h1.mono h, h2⟩

/-- what a call gives, in a state -/
def callR (o : Option Out) (e : En) : R Sl := match o with
  | some (.ret r) => .ok r e
  | some (.exc c fs) => .exc c fs e
  | none => .bad
@[simp] theorem callR_ret (r : Sl) (e : En) : callR (some (.ret r)) e = .ok r e := rfl
@[simp] theorem callR_exc (c fs) (e : En) : callR (some (.exc c fs)) e = .exc c fs e := rfl
def vCall (m : List D → Option Out) (g : M (List D)) : M Sl := fun en => (g en).bind fun ds e => callR (m ds) e
section
variable {X : Cx} {W : WX} {e : Expr} {es : List Expr} {x y : Str} {p py pos : Pos} {g : M (List D)} {k : Nat} {m : List D → Option Out} {mb : List D → List D → Option (Out × List D)}
theorem sp_call {B : Bs} {σ : L2.St} {en : En} {F H : Hp} {Q : VK} {vs : List V} {ds : List D} (S : Sim X.K B σ en F H) (rv : DpAll X.K F vs ds) (q : Post X.K X.mg B W σ F (fun r en' F' H' => ∀ v, Rl X.K B σ en' F' H' v r → Q v H') (callR (m ds) en)) :
    spV X.K X.mg m vs H Q (WE W σ) := by
  refine ⟨F, ds, S.sub, rv, ?_⟩
  cases hm : m ds with
  | none => rw [hm] at q; exact q.elim
  | some o =>
    rw [hm] at q
    cases o with
    | ret r => exact fun F' H' v gr h => q F' H' (S.gr gr) gr.ff v (S.res h)
    | exc c fs => exact fun F' H' cls d gr h => q F' H' cls d (S.gr gr) gr.ff h
theorem ve_call (C : FnV X.prog X.w X.K X.mg X.base x k m) (hr : RoomG k X.A) (tk : Takes X W) (ha : VDs X W (e :: es) g)
    (hg : Gl X x := by rfl) (hdb : (x == ("__debug__" : Str)) = false := by decide) (he : starEach (e :: es) X.env = (false, eval e X.env) :: starEach es X.env := by rfl) (hpl : (backTo pos (starEach es X.env)).any (·.1) = false := by rfl) :
    VE X W (.Call (.Name x p) (e :: es) [] pos) (vCall m g) := fun B => by
  obtain ⟨f, fd, ps, FO, hm, hk, hb⟩ := C.ex
  refine peWk (pe_callG (E := WE W) FO hr hg hm hk hb (fun σ => passAt tk σ) (ha B) hdb he hpl) fun σ H Q ⟨F, en, S, q⟩ => ?_
  exact ⟨F, en, S, (Post.bind q).imp fun ds en1 F1 H1 S1 s1 q1 vs rv => sp_call S1 rv q1⟩
/-- f() -/
theorem ve_call0 (C : FnV X.prog X.w X.K X.mg X.base x k m) (hr : RoomG k X.A) (tk : Takes X W) (hg : Gl X x := by rfl) (hdb : (x == ("__debug__" : Str)) = false := by decide) :
    VE X W (.Call (.Name x p) [] [] pos) (vCall m vNil) := fun B => by
  obtain ⟨f, fd, ps, FO, hm, hk, hb⟩ := C.ex
  refine ⟨fun pins s σ H Q I ⟨F, en, S, q⟩ => ?_⟩
  refine wpAny_Call_Name_kw
                                                                                                                (ld_glob I hg hm ?_ hdb)
  exact PySem.W.callWith_K0 I.kIn hk (runG (E := WE W) (us := []) FO hr hb (passAt tk σ) I .nil (sp_call S .nil q))

/-- f(bag, ..) -/
def callB (i : Nat) (o : Option (Out × List D)) (b : Bool) (e : En) : R Sl := match o with
  | some (.ret r, ys) => .ok r (e.set i (.own b ys))
  | some (.exc c fs, ys) => .exc c fs (e.set i (.own b ys))
  | none => .bad
def ownE {α : Type} (i : Nat) (e : En) (k : Bool → List D → R α) : R α := match e[i]? with
  | some (.own b xs) => k b xs
  | _ => .bad
def vCallB (i : Nat) (m : List D → List D → Option (Out × List D)) (g : M (List D)) : M Sl := fun en => ownE i en fun _ _ => (g en).bind fun ds e => ownE i e fun b xs => callB i (m xs ds) b e
theorem upd_id {H : Hp} {a : Addr} {o : HO} (h : H a = some o) : upd H a o = H := by
  funext c
  by_cases hc : c = a
  · subst hc; rw [upd_same, h]
  · rw [upd_ne hc]
theorem Sim.grB {K : PySem.W.Frag} {B : Bs} {σ : L2.St} {en : En} {F H F' H' : Hp} {i : Nat} {b : Bool} {xs ys : List D} {a : Addr} {vs ws : List V} (S : Sim K B σ en F H) (h : en[i]? = some (.own b xs)) (h1 : σ[i]? = some (some (.ref a))) (h2 : H a = some (.lst vs))
    (h4 : F a = none) (gr : GrB a F H F' H') (h5 : H' a = some (.lst ws)) (h6 : DpAll K F' ws ys) : Sim K B σ (en.set i (.own b ys)) F' H' := by
  have hF' : F' a = none := by
    cases q : F' a with
    | none => rfl
    | some o =>
      rcases gr.nw a o q with z | z
      · rw [h4] at z; cases z
      · rw [h2] at z; cases z
  have g2 : Gr F H F' (upd H' a (.lst vs)) := by
    refine ⟨gr.ff, same_upd2 gr.fh hF', fun c o e => ?_, gr.nw⟩
    by_cases hc : c = a
    · subst hc; rw [upd_same, ← h2]; exact e
    · rw [upd_ne hc]; exact gr.hh c o hc e
  have S3 := (S.gr g2).change (i := i) h h1 upd_same h6
  rw [upd_upd, upd_id h5] at S3
  exact S3
theorem ve_callBag {i : Nat} (C : FnB X.prog X.w X.K X.mg X.base x k mb) (hr : RoomG k X.A) (tk : Takes X W) (ha : VDs X W es g) (hN : X.N[i]? = some y := by rfl) (hv : Vis X.env.scope y := by first | exact Or.inl rfl | exact Or.inr (Or.inl rfl) | exact Or.inr (Or.inr rfl))
    (hd : (y == ("__debug__" : Str)) = false := by decide) (hcd : (y == ("__classdict__" : Str)) = false := by decide)
    (hg : Gl X x := by rfl) (hdb : (x == ("__debug__" : Str)) = false := by decide) (he : starEach (.Name y py :: es) X.env = (false, eval (.Name y py) X.env) :: starEach es X.env := by rfl) (hpl : (backTo pos (starEach es X.env)).any (·.1) = false := by rfl) :
    VE X W (.Call (.Name x p) (.Name y py :: es) [] pos) (vCallB i mb g) := fun B => by
  obtain ⟨f, fd, ps, FO, hm, hk, hb⟩ := C.ex
  refine peWk (pe_callG (E := WE W) FO hr hg hm hk hb (fun σ => passAt tk σ) (pa_cons (pe_var hN hv hd hcd) (ha B) he) hdb he hpl) fun σ H Q ⟨F, en, S, q⟩ => ?_
  unfold vCallB ownE at q
  split at q
  · rename_i b0 xs0 h0
    obtain ⟨a, vs0, e0, l0, f0, _⟩ := S.own i b0 xs0 h0
    refine ⟨_, e0, F, en, S, (Post.bind q).imp fun ds en1 F1 H1 S1 s1 q1 us rv => ?_⟩
    split at q1
    · rename_i b xs h1
      obtain ⟨a1, vs, e1, l1, f1, r1, _⟩ := S1.own i b xs h1
      rw [e0] at e1
      cases e1
      refine ⟨a, us, vs, xs, F1, ds, rfl, l1, f1, S1.sub, r1, rv, ?_⟩
      dsimp only at q1
      unfold callB at q1
      cases hmm : mb xs ds with
      | none => rw [hmm] at q1; exact q1.elim
      | some o =>
        obtain ⟨o, ys⟩ := o
        rw [hmm] at q1
        cases o with
        | ret r =>
          intro F' H' v ws' gr h5 h6 hr2
          refine q1 F' H' (S1.grB h1 e0 l1 f1 gr h5 h6) gr.ff v ?_
          cases r with
          | no => exact hr2
          | val d => exact hr2
          | own b2 zs =>
            obtain ⟨rfl, c, us2, rfl, z1, z2, z3, z4⟩ := hr2
            refine ⟨rfl, c, us2, rfl, z1, z2, z3, S1.kp.free z4, fun z => S1.z c z z4, fun j hj e => ?_⟩
            have hj' : isOwn en1 j := by
              rcases isOwn_set hj with ⟨q, _⟩ | ⟨_, q⟩
              · rw [q]; exact isOwn_out h1
              · exact q
            obtain ⟨b3, us3, hj3⟩ := hj'
            obtain ⟨c', _, w1, w2, _⟩ := S1.own j b3 us3 hj3
            rw [e] at w1; cases w1
            rw [z4] at w2; cases w2
        | exc c fs => exact fun F' H' cls d ws' gr h5 h6 hx => q1 F' H' cls d (S1.grB h1 e0 l1 f1 gr h5 h6) gr.ff hx
    · exact q1.elim
  · exact q.elim
end

/-! ### a def keeps its promise -/
def startE (n : Nat) (ds : List D) : En := ds.map Sl.val ++ List.replicate (n - ds.length) .no
def outOf : R Fl → Option Out
  | .ok (.rt r) _ => some (.ret r)
  | .ok .nx _ => some (.ret (.val .none))
  | .exc c fs _ => some (.exc c fs)
  | _ => none
def outB : R Fl → Option (Out × List D)
  | .ok (.rt r) e => (match (e[0]? : Option Sl) with
    | some (.own true ys) => some (.ret r, ys)
    | _ => none)
  | .ok .nx e => (match (e[0]? : Option Sl) with
    | some (.own true ys) => some (.ret (.val .none), ys)
    | _ => none)
  | .exc c fs e => (match (e[0]? : Option Sl) with
    | some (.own true ys) => some (.exc c fs, ys)
    | _ => none)
  | _ => none
section
variable {K : PySem.W.Frag} {mg : Str → Option Value} {F H : Hp}
def bs0 (F H : Hp) : Bs := ⟨F, H, fun a => H a ≠ none, fun _ => False⟩
def bsB (F H : Hp) (b : Addr) : Bs := ⟨F, fun a => if a = b then none else H a, fun a => H a ≠ none, fun a => a = b⟩
theorem start_get {vs : List V} {ds : List D} {n i : Nat} {s : Sl} (h : (startE n ds)[i]? = some s) : (∃ d, s = .val d ∧ ds[i]? = some d) ∨ s = .no := by
  unfold startE at h
  by_cases hi : i < (ds.map Sl.val).length
  · rw [List.getElem?_append_left hi, List.getElem?_map] at h
    cases q : ds[i]? with
    | none => rw [q] at h; cases h
    | some d => rw [q] at h; exact .inl ⟨d, (Option.some.inj h).symm, rfl⟩
  · rw [List.getElem?_append_right (Nat.le_of_not_lt hi), List.getElem?_replicate] at h
    split at h
    · exact .inr (Option.some.inj h).symm
    · cases h
theorem sim_start {N : List Str} {vs : List V} {ds : List D} (s : Same F H) (r : DpAll K F vs ds) (hn : ds.length ≤ N.length) : Sim K (bs0 F H) (L2.start N vs) (startE N.length ds) F H := by
  have hl := dps_len r
  refine ⟨by simp [L2.start, startE, hl], s, .refl _, fun a o e => .inl e, .refl _, fun a z => z, fun i d h => ?_, fun i b xs h => ?_, fun i j a _ hi => ?_⟩
  · rcases start_get (vs := vs) h with ⟨d', e, q⟩ | e
    · cases e
      have hi : i < vs.length := by rw [hl]; exact (List.getElem?_eq_some_iff.mp q).1
      refine ⟨vs[i], ?_, dps_get r (List.getElem?_eq_getElem hi) q⟩
      unfold L2.start
      rw [List.getElem?_append_left (by simpa using hi), List.getElem?_map, List.getElem?_eq_getElem hi]
      rfl
    · cases e
  · rcases start_get (vs := vs) h with ⟨d', e, q⟩ | e <;> cases e
  · obtain ⟨b, xs, h⟩ := hi
    rcases start_get (vs := vs) h with ⟨d', e, q⟩ | e <;> cases e
theorem end_gr {σ : L2.St} {en : En} {F' H' : Hp} (S : Sim K (bs0 F H) σ en F' H') (s : Same F F') : Gr F H F' H' :=
  ⟨s, S.sub, S.kp, fun a o e => (S.new a o e).imp_right fun z => Classical.byContradiction fun q => z q⟩
theorem end_rl {σ : L2.St} {en : En} {F' H' : Hp} {v : V} {r : Sl} (h : Rl K (bs0 F H) σ en F' H' v r) : RlF K F' H H' v r := by
  cases r with
  | no => exact h
  | val d => exact h
  | own b xs =>
    obtain ⟨rfl, a, vs, rfl, h1, h2, h3, h4, h5, _⟩ := h
    exact ⟨rfl, a, vs, rfl, h1, h2, h3, Classical.byContradiction fun q => h5 q⟩
/-- what a promise wants behind the body -/
def wantV (K : PySem.W.Frag) (mg : Str → Option Value) (F H : Hp) (Q : VK) (E : XK) : Option Out → Prop
  | some (.ret r) => ∀ F' H' v, Gr F H F' H' → RlF K F' H H' v r → Q v H'
  | some (.exc c fs) => ∀ F' H' cls d, Gr F H F' H' → RX K mg F' H' c fs cls d → E cls d H'
  | none => False
theorem tS_of {W : WX} {N : List Str} {vs : List V} {ds : List D} {Q : VK} {E : XK} {o : Out} {g : MS} (hW : W = fun cls d _ H => E cls d H) (s : Same F H) (rv : DpAll K F vs ds) (hle : ds.length ≤ N.length) (q : wantV K mg F H Q E (some o))
    (hg : outOf (g (startE N.length ds)) = some o) : tS K mg (bs0 F H) W g { nx := fun _ H' => Q .non H', rt := Q } (L2.start N vs) H := by
  refine ⟨F, _, sim_start s rv hle, ?_⟩
  cases hr : g (startE N.length ds) with
  | bad => rw [hr] at hg; cases hg
  | exc c fs e =>
    rw [hr] at hg
    cases hg
    intro σ' F' H' cls d S' s' hx
    rw [hW]
    exact q F' H' cls d (end_gr S' s') hx
  | ok a e =>
    rw [hr] at hg
    cases a with
    | nx =>
      cases hg
      exact fun σ' F' H' S' s' => q F' H' _ (end_gr S' s') .non
    | rt r =>
      cases hg
      exact fun σ' F' H' v S' s' hr => q F' H' v (end_gr S' s') (end_rl hr)
    | bk => cases hg
    | ct => cases hg
theorem sim_startB {N : List Str} {b : Addr} {vs ws : List V} {xs ds : List D} (s : Same F H) (hb : H b = some (.lst ws)) (fb : F b = none) (rb : DpAll K F ws xs) (r : DpAll K F vs ds) (hn : ds.length + 1 ≤ N.length) :
    Sim K (bsB F H b) (L2.start N (.ref b :: vs)) (.own true xs :: startE (N.length - 1) ds) F H := by
  have hl := dps_len r
  have tl : ∀ i, (L2.start N (.ref b :: vs))[i + 1]? = (vs.map some ++ List.replicate (N.length - 1 - vs.length) none)[i]? := fun i => by
    unfold L2.start
    rw [List.map_cons, List.cons_append, List.getElem?_cons_succ, List.length_cons, show N.length - (vs.length + 1) = N.length - 1 - vs.length by omega]
  refine ⟨by simp [L2.start, startE, hl]; omega, s, .refl _, fun a o e => .inl e, fun a o e => ?_, fun a z => z, fun i d h => ?_, fun i b' zs h => ?_, fun i j a hij hi hj => ?_⟩
  · have e' : (if a = b then none else H a) = some o := e
    split at e'
    · cases e'
    · exact e'
  · cases i with
    | zero => cases h
    | succ i =>
      rw [List.getElem?_cons_succ] at h
      rcases start_get (vs := vs) h with ⟨d', e, q⟩ | e
      · cases e
        have hi : i < vs.length := by rw [hl]; exact (List.getElem?_eq_some_iff.mp q).1
        refine ⟨vs[i], ?_, dps_get r (List.getElem?_eq_getElem hi) q⟩
        rw [tl, List.getElem?_append_left (by simpa using hi), List.getElem?_map, List.getElem?_eq_getElem hi]
        rfl
      · cases e
  · cases i with
    | zero =>
      cases h
      exact ⟨b, ws, rfl, hb, fb, rb, if_pos rfl, (fun z => by cases z), fun _ => rfl⟩
    | succ i =>
      rw [List.getElem?_cons_succ] at h
      rcases start_get (vs := vs) h with ⟨d', e, q⟩ | e <;> cases e
  · have z : ∀ k, isOwn (Sl.own true xs :: startE (N.length - 1) ds) k → k = 0 := fun k ⟨b', zs, h⟩ => by
      cases k with
      | zero => rfl
      | succ k =>
        rw [List.getElem?_cons_succ] at h
        rcases start_get (vs := vs) h with ⟨d', e, q⟩ | e <;> cases e
    exact absurd ((z i hi).trans (z j hj).symm) hij
theorem end_grB {b : Addr} {ws : List V} {σ : L2.St} {en : En} {F' H' : Hp} (S : Sim K (bsB F H b) σ en F' H') (s : Same F F') : GrB b F H F' H' :=
  ⟨s, S.sub, fun a o n e => S.kp a o (show (if a = b then none else H a) = some o by rw [if_neg n]; exact e), fun a o e => (S.new a o e).imp_right fun z => Classical.byContradiction fun q => z q⟩
theorem end_rlB {b : Addr} {σ : L2.St} {en : En} {F' H' : Hp} {v : V} {r : Sl} (h : Rl K (bsB F H b) σ en F' H' v r) : RlF K F' H H' v r := by
  cases r with
  | no => exact h
  | val d => exact h
  | own b' xs =>
    obtain ⟨rfl, a, vs, rfl, h1, h2, h3, h4, h5, _⟩ := h
    exact ⟨rfl, a, vs, rfl, h1, h2, h3, Classical.byContradiction fun q => h5 q⟩
theorem end_bag {b : Addr} {σ : L2.St} {en : En} {F' H' : Hp} {ys : List D} (S : Sim K (bsB F H b) σ en F' H') (h : en[0]? = some (.own true ys)) : ∃ ws, H' b = some (.lst ws) ∧ DpAll K F' ws ys := by
  obtain ⟨a, ws, h1, h2, h3, h4, _, _, h7⟩ := S.own 0 true ys h
  have e : a = b := h7 rfl
  subst e
  exact ⟨ws, h2, h4⟩
def wantB (K : PySem.W.Frag) (mg : Str → Option Value) (b : Addr) (F H : Hp) (Q : VK) (E : XK) : Option (Out × List D) → Prop
  | some (.ret r, ys) => ∀ F' H' v ws', GrB b F H F' H' → H' b = some (.lst ws') → DpAll K F' ws' ys → RlF K F' H H' v r → Q v H'
  | some (.exc c fs, ys) => ∀ F' H' cls d ws', GrB b F H F' H' → H' b = some (.lst ws') → DpAll K F' ws' ys → RX K mg F' H' c fs cls d → E cls d H'
  | none => False
theorem tS_ofB {W : WX} {N : List Str} {b : Addr} {vs ws : List V} {xs ds : List D} {Q : VK} {E : XK} {o : Out × List D} {g : MS} (hW : W = fun cls d _ H => E cls d H) (s : Same F H) (hb : H b = some (.lst ws)) (fb : F b = none) (rb : DpAll K F ws xs) (rv : DpAll K F vs ds)
    (hle : ds.length + 1 ≤ N.length) (q : wantB K mg b F H Q E (some o)) (hg : outB (g (.own true xs :: startE (N.length - 1) ds)) = some o) :
    tS K mg (bsB F H b) W g { nx := fun _ H' => Q .non H', rt := Q } (L2.start N (.ref b :: vs)) H := by
  refine ⟨F, _, sim_startB s hb fb rb rv hle, ?_⟩
  obtain ⟨o, ys⟩ := o
  cases hr : g (.own true xs :: startE (N.length - 1) ds) with
  | bad => rw [hr] at hg; cases hg
  | exc c fs e =>
    rw [hr] at hg
    unfold outB at hg
    dsimp only at hg
    split at hg
    · rename_i zs hz
      cases hg
      intro σ' F' H' cls d S' s' hx
      rw [hW]
      obtain ⟨ws', z1, z2⟩ := end_bag S' hz
      exact q F' H' cls d ws' (end_grB (ws := ws) S' s') z1 z2 hx
    · cases hg
  | ok a e =>
    rw [hr] at hg
    unfold outB at hg
    cases a with
    | nx =>
      dsimp only at hg
      split at hg
      · rename_i zs hz
        cases hg
        intro σ' F' H' S' s'
        obtain ⟨ws', z1, z2⟩ := end_bag S' hz
        exact q F' H' _ ws' (end_grB (ws := ws) S' s') z1 z2 .non
      · cases hg
    | rt r =>
      dsimp only at hg
      split at hg
      · rename_i zs hz
        cases hg
        intro σ' F' H' v S' s' hr
        obtain ⟨ws', z1, z2⟩ := end_bag S' hz
        exact q F' H' v ws' (end_grB (ws := ws) S' s') z1 z2 (end_rlB hr)
      · cases hg
    | bk => cases hg
    | ct => cases hg
end

/-- the context of a def's body -/
abbrev bodyX (P : Program) (w : World) (K : PySem.W.Frag) (mg : Str → Option Value) (base : Heap) (N : List Str) (qual : Str) (st : Stmt) (f : Addr) (cdv : Value) (A : Around) (outer : List Env) (s : Shared) (H : Hp) (E : XK) : Cx :=
  cxOf (L2.CX P w) P w K mg base N qual (defScope st) f cdv A outer s H E
section
variable {P : Program} {w : World} {K : PySem.W.Frag} {mg : Str → Option Value} {base : Heap} {x qual : Str} {st : Stmt} {f : Addr} {fd : FuncData} {N ps : List Str} {k : Nat}
theorem body_takes {cdv : Value} {A : Around} {outer : List Env} {s : Shared} {H : Hp} {E : XK} : Takes (bodyX P w K mg base N qual st f cdv A outer s H E) (fun cls d _ H => E cls d H) := takes_of rfl rfl rfl rfl
/-- a def that changes no list of its caller's; g by fuel -/
theorem fng_mk {m : List D → Option Out} (F : Fun K x qual st f fd) (S : FnScope N ps (defScope st)) (hlen : ∀ ds o, m ds = some o → ds.length = ps.length) (g : Nat → MS)
    (body : ∀ (n : Nat) (cdv : Value) (A : Around) (outer : List Env) (s : Shared) (H : Hp) (E : XK), RoomG k (A.deeper (envOfC qual (defScope st) s.heap.objs.size f cdv)) →
      VSs (bodyX P w K mg base N qual st f cdv A outer s H E) (fun cls d _ H => E cls d H) (defBody st) (g n))
    (eq : ∀ ds o, m ds = some o → ∃ n, outOf (g n (startE N.length ds)) = some o) : FnG P w K mg base (k + 1) f fd ps (spV K mg m) := by
  refine fnG_of F S (fun vs H Q E ⟨F0, ds, _, rv, q⟩ => ?_) (fun cdv A outer s H vs Q E hr h => ?_)
  · cases hmm : m ds with
    | none => rw [hmm] at q; exact q.elim
    | some o => rw [dps_len rv, hlen ds o hmm]
  · have hps : ps.length ≤ N.length := by
      have := congrArg List.length S.pre
      rw [List.length_take] at this
      omega
    obtain ⟨F0, ds, s0, rv, q⟩ := h
    cases hmm : m ds with
    | none => rw [hmm] at q; exact q.elim
    | some o =>
      rw [hmm] at q
      obtain ⟨n, hn⟩ := eq ds o hmm
      refine ⟨_, body n cdv A outer s H E hr (bs0 F0 H), tS_of rfl s0 rv (by rw [hlen ds o hmm]; exact hps) ?_ hn⟩
      cases o <;> exact q
theorem fnv_mk {m : List D → Option Out} (F : Fun K x qual st f fd) (S : FnScope N ps (defScope st)) (hm : mg x = some (.ref f)) (b : Binds K fd ps []) (hlen : ∀ ds o, m ds = some o → ds.length = ps.length) (g : Nat → MS)
    (body : ∀ (n : Nat) (cdv : Value) (A : Around) (outer : List Env) (s : Shared) (H : Hp) (E : XK), RoomG k (A.deeper (envOfC qual (defScope st) s.heap.objs.size f cdv)) →
      VSs (bodyX P w K mg base N qual st f cdv A outer s H E) (fun cls d _ H => E cls d H) (defBody st) (g n))
    (eq : ∀ ds o, m ds = some o → ∃ n, outOf (g n (startE N.length ds)) = some o) : FnV P w K mg base x (k + 1) m := ⟨f, fd, ps, fng_mk F S hlen g body eq, hm, F.kp, b⟩
/-- a def whose first argument is the bag -/
theorem fnb_mk {m : List D → List D → Option (Out × List D)} (F : Fun K x qual st f fd) (S : FnScope N ps (defScope st)) (hm : mg x = some (.ref f)) (b : Binds K fd ps []) (hlen : ∀ xs ds o, m xs ds = some o → ds.length + 1 = ps.length) (g : Nat → MS)
    (body : ∀ (n : Nat) (cdv : Value) (A : Around) (outer : List Env) (s : Shared) (H : Hp) (E : XK), RoomG k (A.deeper (envOfC qual (defScope st) s.heap.objs.size f cdv)) →
      VSs (bodyX P w K mg base N qual st f cdv A outer s H E) (fun cls d _ H => E cls d H) (defBody st) (g n))
    (eq : ∀ xs ds o, m xs ds = some o → ∃ n, outB (g n (.own true xs :: startE (N.length - 1) ds)) = some o) : FnB P w K mg base x (k + 1) m := by
  refine ⟨f, fd, ps, fnG_of F S (fun vs H Q E ⟨b, vs', ws, xs, F0, ds, e, _, _, _, _, rv, q⟩ => ?_) (fun cdv A outer s H vs Q E hr h => ?_), hm, F.kp, b⟩
  · cases hmm : m xs ds with
    | none => rw [hmm] at q; exact q.elim
    | some o => rw [e, List.length_cons, dps_len rv, hlen xs ds o hmm]
  · have hps : ps.length ≤ N.length := by
      have := congrArg List.length S.pre
      rw [List.length_take] at this
      omega
    obtain ⟨b, vs', ws, xs, F0, ds, rfl, hb, fb, s0, rb, rv, q⟩ := h
    cases hmm : m xs ds with
    | none => rw [hmm] at q; exact q.elim
    | some o =>
      rw [hmm] at q
      obtain ⟨n, hn⟩ := eq xs ds o hmm
      refine ⟨_, body n cdv A outer s H E hr (bsB F0 H b), tS_ofB rfl s0 hb fb rb rv (by rw [hlen xs ds o hmm]; exact hps) ?_ hn⟩
      obtain ⟨o, ys⟩ := o
      cases o <;> exact q
end
end Mv

namespace Mv
open L2 PySem.Spec PySem PyProof.Rows

section
variable {X : Cx}
theorem int_of {K : PySem.W.Frag} {F : Hp} {v : V} {i : Int} (h : Dp K F v (.int i)) : v = .int i := by cases h; rfl
theorem str_of {K : PySem.W.Frag} {F : Hp} {v : V} {x : Str} (h : Dp K F v (.str x)) : v = .str x := by cases h; rfl
theorem bl_of {K : PySem.W.Frag} {F : Hp} {v : V} {b : Bool} (h : Dp K F v (.bool b)) : v = .bl b := by cases h; rfl
theorem lst_of {K : PySem.W.Frag} {F : Hp} {v : V} {ds : List D} (h : Dp K F v (.list ds)) : ∃ a xs, v = .ref a ∧ Rd F a (.lst xs) ∧ DpAll K F xs ds := by cases h with | lst a b => exact ⟨_, _, rfl, a, b⟩
theorem tup_of {K : PySem.W.Frag} {F : Hp} {v : V} {ds : List D} (h : Dp K F v (.tuple ds)) : ∃ a xs, v = .ref a ∧ SqT K F a xs ∧ DpAll K F xs ds := by cases h with | tup a b => exact ⟨_, _, rfl, a, b⟩

/-! ### + -/
theorem Inv.rdL {pins : List (Addr × Obj)} {σ : L2.St} {H : Hp} {s : Shared} {a : Addr} {xs : List V} (I : Inv X pins σ H s) (h : Rd H a (.lst xs)) : xs.length ≤ sizeLine ∧ ∃ (its : List Value) (n : Nat), Vals xs its ∧ s.heap.get? a = some { cls := .type "list", data := .seq its.toArray n } := h.ok I.hok
theorem op_catR : OpR X (binaryOp .Add) (fun x y H Q => ∃ l b xs zs, x = .ref l ∧ y = .ref b ∧ Rd H l (.lst xs) ∧ Rd H b (.lst zs) ∧ xs.length + zs.length ≤ sizeLine ∧ ∀ p, H p = none → Q (.ref p) (upd H p (.lst (xs ++ zs)))) := by
  intro pins s σ H x y
  intro v u Q I rx ry h
  obtain ⟨l, b, xs, zs, rfl,
                                                                                                                rfl, hH, hB, hz, q⟩ := h
  cases rx
  cases ry
  obtain ⟨z, its, n, r, e⟩ := Inv.rdL I hH
  obtain ⟨z2, its2, n2, r2, e2⟩ := Inv.rdL I hB
  have l1 := r.length
  have l2 := r2.length
  refine PySem.P.add_list e e2 ?_
                                                                                                                (by rw [List.size_toArray, List.size_toArray]; omega)
  rw [show its.toArray ++ its2.toArray = (its ++ its2).toArray by simp]
  exact ⟨.ref _, _, I.lnew (t' := s.toks) (r.append r2)
                                                                                                                (by rw [List.length_append]; omega), rfl, q _ I.fresh⟩
def dAdd : D → D → Option Sl
  | .int i, .int j => some (.val (.int (i + j)))
  | .str i, .str j => if i.length + j.length ≤ LIM then some (.val (.str (i ++ j))) else none
  | .tuple xs, .tuple ys => if xs.length + ys.length ≤ LIM then some (.val (.tuple (xs ++ ys))) else none
  | .list xs, .list ys => if xs.length + ys.length ≤ LIM then some (.own false (xs ++ ys)) else none
  | _, _ => none
@[simp] theorem dAdd_int (i j : Int) : dAdd (.int i) (.int j) = some (.val (.int (i + j))) := rfl
theorem or4 {f : Value → Value → Sem Value} {r1 r2 r3 r4 : R2} (h1 : OpR X f r1) (h2 : OpR X f r2) (h3 : OpR X f r3) (h4 : OpR X f r4) : OpR X f (fun x y H Q => r1 x y H Q ∨ r2 x y H Q ∨ r3 x y H Q ∨ r4 x y H Q) := h1.or (h2.or (h3.or h4))
theorem ov_of {f : Value → Value → Sem Value} {r : R2} {o : D → D → Option Sl} (h : OpR X f r) (w : ∀ x y H Q F a b, Same F H → Dp X.K F x a → Dp X.K F y b → Kd X.K F H Q (o a b) → r x y H Q) : OV X f o :=
  fun pins s σ H x y v u Q I rx ry ⟨F, a, b, s0, ra, rb, k⟩ => h pins s σ H x y v u Q I rx ry (w x y H Q F a b s0 ra rb k)
theorem ov_add : OV X (binaryOp .Add) dAdd := ov_of (or4 op_add op_add_str op_catA op_catR) fun x y H Q F a b s ra rb k => by
  unfold dAdd at k
  split at k
  · rename_i i j
    rw [int_of ra, int_of rb]
    exact .inl ⟨i, j, rfl, rfl, k.val s (.int _)⟩
  · rename_i i j
    rw [str_of ra, str_of rb]
    split at k
    · rename_i hl
      exact .inr (.inl ⟨i, j, rfl, rfl, lim_line hl, k.val s (.str _)⟩)
    · exact k.elim
  · rename_i xs ys
    split at k
    · rename_i hl
      obtain ⟨a1, us, rfl, h1, r1⟩ := tup_of ra
      obtain ⟨a2, ws, rfl, h2, r2⟩ := tup_of rb
      refine .inr (.inr (.inl ⟨a1, a2, us, ws, rfl, rfl, sqT_mono s h1, sqT_mono s h2, by rw [dps_len r1, dps_len r2]; exact lim_line hl, fun e => ?_, fun _ e => ?_, fun _ _ => k.tup s (dps_app r1 r2)⟩))
      · subst e
        cases r1
        exact k.val s (.tup h2 r2)
      · subst e
        cases r2
        rw [List.append_nil] at k
        exact k.val s (.tup h1 r1)
    · exact k.elim
  · rename_i xs ys
    split at k
    · rename_i hl
      obtain ⟨a1, us, rfl, h1, r1⟩ := lst_of ra
      obtain ⟨a2, ws, rfl, h2, r2⟩ := lst_of rb
      exact .inr (.inr (.inr ⟨a1, a2, us, ws, rfl, rfl, rd_mono s h1, rd_mono s h2, by rw [dps_len r1, dps_len r2]; exact lim_line hl, k.lst s (dps_app r1 r2)⟩))
    · exact k.elim
  · exact k.elim

/-! ### ints -/
def dSub : D → D → Option Sl
  | .int i, .int j => some (.val (.int (i - j)))
  | _, _ => none
@[simp] theorem dSub_int (i j : Int) : dSub (.int i) (.int j) = some (.val (.int (i - j))) := rfl
theorem ov_sub : OV X (binaryOp .Sub) dSub := ov_of op_sub fun x y H Q F a b s ra rb k => by
  unfold dSub at k
  split at k
  · rename_i i j
    rw [int_of ra, int_of rb]
    exact ⟨i, j, rfl, rfl, k.val s (.int _)⟩
  · exact k.elim
/-- sizes: numbers below 2 ^ 60000000, in bits -/
def bigOk (i : Int) : Prop := i.natAbs < 2 ^ 4000000
/-- a product: both factors small enough -/
def mulOk (i j : Int) : Prop := i.natAbs.log2 + j.natAbs.log2 < 1000000 ∨ (-(2 ^ 64) < i ∧ i < 2 ^ 64) ∨ (-(2 ^ 64) < j ∧ j < 2 ^ 64)
instance (i j : Int) : Decidable (mulOk i j) := inferInstanceAs (Decidable (_ ∨ _))
theorem rep_flat_len {α : Type} (xs : List α) (n : Nat) : (List.replicate n xs).flatten.length = n * xs.length := by simp [List.length_flatten, List.map_replicate]
theorem dps_rep {K : PySem.W.Frag} {F : Hp} {us : List V} {xs : List D} (r : DpAll K F us xs) : ∀ n, DpAll K F (List.replicate n us).flatten (List.replicate n xs).flatten
  | 0 => .nil
  | n + 1 => by
    rw [List.replicate_succ, List.replicate_succ,
                                                                                                                  List.flatten_cons, List.flatten_cons]
    exact dps_app r (dps_rep r n)
theorem op_repR : OpR X (binaryOp .Mult) (fun x y H Q => ∃ l k xs, x = .ref l ∧ y = .int k ∧ Rd H l (.lst xs) ∧ -(2 ^ 63) ≤ k ∧ k < 2 ^ 63 ∧ xs.length * k.toNat ≤ sizeLine ∧ ∀ p, H p = none → Q (.ref p) (upd H p (.lst (List.replicate k.toNat xs).flatten))) := by
  intro pins s σ H x y
  intro v u Q I rx ry h
  obtain ⟨l, k, xs, rfl,
                                                                                                                rfl, hH, h1, h2, hz, q⟩ := h
  rcases hH with hH | ⟨ob, hH⟩
  · exact op_rep pins s σ H _ _ v u Q I rx ry ⟨l, k, xs, rfl, rfl, hH, h1, h2, hz, q⟩
  · -- locked: the same object
    cases rx
    obtain ⟨t, rfl⟩ := ry
    obtain ⟨z, its, n, r, e⟩ := Inv.rdL I (.inr ⟨ob, hH⟩)
    have hl := r.length
    have hlen : its.toArray.size * k.toNat ≤ sizeLine :=
                                                                                                                  by rw [List.size_toArray, ← hl]; exact hz
    have hcap : ¬ its.toArray.size * k.toNat >
                                                                                                                  (2 ^ 63 - 1) / 8 := by
      have : (sizeLine : Nat) ≤
                                                                                                                    (2 ^ 63 - 1) / 8 := by decide
      omega
    have hnew : List.foldl (fun x1 x2 => x1 ++ x2) #[] (List.replicate
                                                                                                                  (if its.toArray.isEmpty = true then 0 else k.toNat) its.toArray) = (List.replicate k.toNat its).flatten.toArray := by
      have f0 := foldl_rep its
      cases its with
      | nil => simp
      | cons a r' => rw [if_neg (by simp)]; exact (f0 k.toNat []).trans (by rw [List.nil_append])
    refine wpAny_binaryOp_repeat_ref (T := "list") (U := "int") (by decide) ⟨_, e, rfl⟩ (fun s' =>
                                                                                                                  typeIs_int s' k t) noFill_list_mul F.fills_int_mul F.slot_int_rmul repeat_list F.slot_int_index.lookup
      (call_meets F.slot_int_rmul (typeIs_int s k t) F.entry_int_rmul
                                                                                                                    (F.args_int_rmul_2 _ _) (int___rmul___int_list k t l its.toArray n)
        ⟨e, rfl, ⟨_, e, rfl⟩, call_meets F.slot_list_mul ⟨_, e, rfl⟩ F.entry_list_mul (F.args_list_mul_2 _ _) (AutoListH.list___mul___list_int_3 l its.toArray n k t (by rw [fitsIndex_both h1 h2]; exact Bool.false_ne_true) hcap (by rw [notLongL hlen]; exact Bool.false_ne_true)) ⟨e, ?_⟩⟩)
    rw [hnew]
    exact ⟨.ref _, _, I.lnew (t' := s.toks) (r.rep k.toNat) (by rw [rep_flat_len, Nat.mul_comm]; exact hz), rfl, q _ I.fresh⟩
def dMul : D → D → Option Sl
  | .int i, .int j => if mulOk i j then some (.val (.int (i * j))) else none
  | .list xs, .int k => if k.natAbs < 1000000 ∧ xs.length * k.toNat ≤ LIM then some (.own false (List.replicate k.toNat xs).flatten) else none
  | .tuple xs, .int k => if xs ≠ [] ∧ 2 ≤ k ∧ k ≤ 1000 ∧ xs.length ≤ 1000 then some (.val (.tuple (List.replicate k.toNat xs).flatten)) else none
  | _, _ => none
@[simp] theorem dMul_int (i j : Int) : dMul (.int i) (.int j) = if mulOk i j then some (.val (.int (i * j))) else none := rfl
theorem or3 {f : Value → Value → Sem Value} {r1 r2 r3 : R2} (h1 : OpR X f r1) (h2 : OpR X f r2) (h3 : OpR X f r3) : OpR X f (fun x y H Q => r1 x y H Q ∨ r2 x y H Q ∨ r3 x y H Q) := h1.or (h2.or h3)
theorem ov_mul : OV X (binaryOp .Mult) dMul := ov_of (or4 op_mulW op_repR op_repT op_mul) fun x y H Q F a b s ra rb k => by
  unfold dMul at k
  split at k
  · rename_i i j
    rw [int_of ra, int_of rb]
    split at k
    · rename_i hm
      rcases hm with hm | hm
      · exact .inl ⟨i, j, rfl, rfl, hm, k.val s (.int _)⟩
      · exact .inr (.inr (.inr ⟨i, j, rfl, rfl, hm, k.val s (.int _)⟩))
    · exact k.elim
  · rename_i xs n
    split at k
    · rename_i hl
      obtain ⟨a1, us, rfl, h1, r1⟩ := lst_of ra
      rw [int_of rb]
      exact .inr (.inl ⟨a1, n, us, rfl, rfl, rd_mono s h1, by omega, by omega, by rw [dps_len r1]; exact lim_line hl.2, k.lst s (dps_rep r1 _)⟩)
    · exact k.elim
  · rename_i xs n
    split at k
    · rename_i hl
      obtain ⟨a1, us, rfl, h1, r1⟩ := tup_of ra
      rw [int_of rb]
      refine .inr (.inr (.inl ⟨a1, n, us, rfl, rfl, sqT_mono s h1, fun e => hl.1 ?_, hl.2.1, hl.2.2.1, by rw [dps_len r1]; exact hl.2.2.2, k.tup s (dps_rep r1 _)⟩))
      subst e
      cases r1
      rfl
    · exact k.elim
  · exact k.elim
def CDivS (i j : Int) : Prop := j ≠ 0 ∧ j.natAbs.log2 < 9000
theorem op_fdivS : OpR X (binaryOp .FloorDiv) (rI CDivS fun i j => .int (i.fdiv j)) := opI fun _ _ _ _ _ _ _ hc q => floordiv_int hc.1 q (.inl (PyProof.noPylong_of_log2 hc.2))
def dFdiv : D → D → Option Sl
  | .int i, .int j => if j ≠ 0 ∧ j.natAbs.log2 < 9000 then some (.val (.int (i.fdiv j))) else none
  | _, _ => none
@[simp] theorem dFdiv_int (i j : Int) : dFdiv (.int i) (.int j) = if j ≠ 0 ∧ j.natAbs.log2 < 9000 then some (.val (.int (i.fdiv j))) else none := rfl
theorem ov_fdiv : OV X (binaryOp .FloorDiv) dFdiv := ov_of op_fdivS fun x y H Q F a b s ra rb k => by
  unfold dFdiv at k
  split at k
  · rename_i i j
    rw [int_of ra, int_of rb]
    split at k
    · rename_i hm
      exact ⟨i, j, rfl, rfl, hm, k.val s (.int _)⟩
    · exact k.elim
  · exact k.elim
def dMod : D → D → Option Sl
  | .int i, .int j => if j ≠ 0 then some (.val (.int (i.fmod j))) else none
  | _, _ => none
@[simp] theorem dMod_int (i j : Int) : dMod (.int i) (.int j) = if j ≠ 0 then some (.val (.int (i.fmod j))) else none := rfl
theorem ov_mod : OV X (binaryOp .Mod) dMod := ov_of op_modN fun x y H Q F a b s ra rb k => by
  unfold dMod at k
  split at k
  · rename_i i j
    rw [int_of ra, int_of rb]
    split at k
    · rename_i hm
      exact ⟨i, j, rfl, rfl, hm, k.val s (.int _)⟩
    · exact k.elim
  · exact k.elim
def dPow : D → D → Option Sl
  | .int i, .int j => if 0 ≤ j ∧ j ≤ 1000 ∧ i.natAbs < 1000000 then some (.val (.int (i ^ j.toNat))) else none
  | _, _ => none
@[simp] theorem dPow_int (i j : Int) : dPow (.int i) (.int j) = if 0 ≤ j ∧ j ≤ 1000 ∧ i.natAbs < 1000000 then some (.val (.int (i ^ j.toNat))) else none := rfl
theorem ov_pow : OV X (binaryOp .Pow) dPow := ov_of op_pow fun x y H Q F a b s ra rb k => by
  unfold dPow at k
  split at k
  · rename_i i j
    rw [int_of ra, int_of rb]
    split at k
    · rename_i hm
      exact ⟨i, j, rfl, rfl, ⟨hm.1, by omega, by omega⟩, k.val s (.int _)⟩
    · exact k.elim
  · exact k.elim
theorem uv_of {f : Value → Sem Value} {r : V → Hp → VK → Prop} {o : D → Option Sl} (h : UnR X f r) (w : ∀ x H Q F a, Same F H → Dp X.K F x a → Kd X.K F H Q (o a) → r x H Q) : UV X f o :=
  fun pins s σ H x v Q I rx ⟨F, a, s0, ra, k⟩ => h pins s σ H x v Q I rx (w x H Q F a s0 ra k)
def dNeg : D → Option Sl
  | .int i => some (.val (.int (-i)))
  | _ => none
@[simp] theorem dNeg_int (i : Int) : dNeg (.int i) = some (.val (.int (-i))) := rfl
theorem uv_neg : UV X (unaryOp .USub) dNeg := uv_of un_neg fun x H Q F a s ra k => by
  unfold dNeg at k
  split at k
  · rename_i i
    rw [int_of ra]
    exact ⟨i, rfl, k.val s (.int _)⟩
  · exact k.elim

/-! ### comparisons -/
def dCmp (p : Int → Int → Bool) : D → D → Option Sl
  | .int i, .int j => some (.val (.bool (p i j)))
  | _, _ => none
@[simp] theorem dCmp_int (p : Int → Int → Bool) (i j : Int) : dCmp p (.int i) (.int j) = some (.val (.bool (p i j))) := rfl
theorem rd_cmp {p : Int → Int → Bool} {x y : V} {H : Hp} {Q : VK} {F : Hp} {a b : D} (s : Same F H) (ra : Dp X.K F x a) (rb : Dp X.K F y b) (k : Kd X.K F H Q (dCmp p a b)) : rI0 (fun i j => .bl (p i j)) x y H Q := by
  unfold dCmp at k
  split at k
  · rename_i i j
    rw [int_of ra, int_of rb]
    exact ⟨i, j, rfl, rfl, k.val s (.bl _)⟩
  · exact k.elim
theorem ov_lt : OV X (compareOp .Lt) (dCmp fun i j => decide (i < j)) := ov_of op_lt fun x y H Q F a b s ra rb k => rd_cmp s ra rb k
theorem ov_le : OV X (compareOp .LtE) (dCmp fun i j => decide (i ≤ j)) := ov_of op_le fun x y H Q F a b s ra rb k => rd_cmp s ra rb k
theorem ov_gt : OV X (compareOp .Gt) (dCmp fun i j => decide (j < i)) := ov_of op_gt fun x y H Q F a b s ra rb k => rd_cmp s ra rb k
theorem ov_ge : OV X (compareOp .GtE) (dCmp fun i j => decide (j ≤ i)) := ov_of op_ge fun x y H Q F a b s ra rb k => rd_cmp s ra rb k
/-- lists of unlike lengths: no item is looked at -/
def lenNe (r : Bool) : D → D → Option Sl
  | .list xs, .list ys => if xs.length ≠ ys.length then some (.val (.bool r)) else none
  | _, _ => none
def rLen (K : PySem.W.Frag) (r : Bool) : R2 := fun x y H Q => ∃ a b xs ys, x = .ref a ∧ y = .ref b ∧ SqL K H a xs ∧ SqL K H b ys ∧ xs.length ≠ ys.length ∧ Q (.bl r) H
theorem op_eqLen (hu : X.A.units < cLine) : OpR X (compareOp .Eq) (rLen X.K false) := by
  intro pins s σ H x y
  intro v u Q I rx ry h
  obtain ⟨a, b, xs, ys, rfl, rfl, ha, hb, hl, q⟩ := h
  cases
                                                                                                                (show v = Value.ref a from rx)
  cases
                                                                                                                (show u = Value.ref b from ry)
  obtain ⟨us, r1,
                                                                                                                p1, _⟩ := I.list ha
  obtain ⟨ws, r2,
                                                                                                                p2, _⟩ := I.list hb
  have hsz : (us.toArray.size != ws.toArray.size) = true := by
    rw [List.size_toArray, List.size_toArray,
                                                                                                                  ← r1.length, ← r2.length]
    exact bne_iff_ne.mpr hl
  exact SeqAt.eq_list_lengthsAt p1.isList p2.isList hsz hu ⟨.bl _, H, I, rfl, q⟩
theorem op_neLen (hu : X.A.units < cLine) : OpR X (compareOp .NotEq) (rLen X.K true) := by
  intro pins s σ H x y
  intro v u Q I rx ry h
  obtain ⟨a, b, xs, ys, rfl, rfl, ha, hb, hl, q⟩ := h
  cases
                                                                                                                (show v = Value.ref a from rx)
  cases
                                                                                                                (show u = Value.ref b from ry)
  obtain ⟨us, r1,
                                                                                                                p1, _⟩ := I.list ha
  obtain ⟨ws, r2,
                                                                                                                p2, _⟩ := I.list hb
  have hsz : (us.toArray.size != ws.toArray.size) = true := by
    rw [List.size_toArray, List.size_toArray,
                                                                                                                  ← r1.length, ← r2.length]
    exact bne_iff_ne.mpr hl
  exact SeqAt.RcNeAt.lists_lengths p1.isList p2.isList hsz hu X.prog X.w _ _ ⟨.bl _, H, I, rfl, q⟩
theorem rd_len {x y : V} {H : Hp} {Q : VK} {F : Hp} {a b : D} {r : Bool} (s : Same F H) (ra : Dp X.K F x a) (rb : Dp X.K F y b) (k : Kd X.K F H Q (lenNe r a b)) : rLen X.K r x y H Q := by
  unfold lenNe at k
  split at k
  · obtain ⟨a1, us, rfl, h1, r1⟩ := lst_of ra
    obtain ⟨a2, ws, rfl, h2, r2⟩ := lst_of rb
    split at k
    · rename_i hl
      exact ⟨a1, a2, us, ws, rfl, rfl, .inl (rd_mono s h1), .inl (rd_mono s h2), by rw [dps_len r1, dps_len r2]; exact hl, k.val s (.bl _)⟩
    · exact k.elim
  · exact k.elim
def dEq : D → D → Option Sl
  | .str x, .str y => some (.val (.bool (decide (x = y))))
  | a, b => if SeqAt.shaped a = true ∧ SeqAt.shaped b = true then some (.val (.bool (PyData.eqv a b))) else lenNe false a b
def dNe : D → D → Option Sl
  | .str x, .str y => some (.val (.bool (!decide (x = y))))
  | a, b => if SeqAt.shaped a = true ∧ SeqAt.shaped b = true then some (.val (.bool (!PyData.eqv a b))) else lenNe true a b
theorem vstr_iff {x y : Str} : decide (V.str x = V.str y) = decide (x = y) := by
  by_cases h : x = y
  · subst h; simp
  · rw [decide_eq_false h]
    exact decide_eq_false fun e => h (V.str.inj e)
theorem ov_eq (hr : RoomG 0 X.A) : OV X (compareOp .Eq) dEq := ov_of (OpR.or (op_eqD (Nat.lt_of_le_of_lt (Nat.le_refl _) hr.r.units)) (OpR.or L2.op_eq (op_eqLen (Nat.lt_of_le_of_lt (Nat.le_add_right _ _) hr.r.units)))) fun x y H Q F a b s ra rb k => by
  unfold dEq at k
  split at k
  · rw [str_of ra, str_of rb]
    exact .inr (.inl ⟨rfl, by rw [vstr_iff]; exact k.val s (.bl _)⟩)
  · split at k
    · rename_i h
      exact .inl ⟨a, b, (dp_mono s ra).l2 (noDict_lay (SeqAt.canLay_of_shaped h.1)), (dp_mono s rb).l2 (noDict_lay (SeqAt.canLay_of_shaped h.2)), h.1, h.2, k.val s (.bl _)⟩
    · exact .inr (.inr (rd_len s ra rb k))
theorem ov_ne (hr : RoomG 0 X.A) : OV X (compareOp .NotEq) dNe := ov_of (OpR.or (op_neD (Nat.lt_of_le_of_lt (Nat.le_refl _) hr.r.units)) (OpR.or L2.op_ne (op_neLen (Nat.lt_of_le_of_lt (Nat.le_add_right _ _) hr.r.units)))) fun x y H Q F a b s ra rb k => by
  unfold dNe at k
  split at k
  · rw [str_of ra, str_of rb]
    exact .inr (.inl ⟨rfl, by rw [vstr_iff]; exact k.val s (.bl _)⟩)
  · split at k
    · rename_i h
      exact .inl ⟨a, b, (dp_mono s ra).l2 (noDict_lay (SeqAt.canLay_of_shaped h.1)), (dp_mono s rb).l2 (noDict_lay (SeqAt.canLay_of_shaped h.2)), h.1, h.2, k.val s (.bl _)⟩
    · exact .inr (.inr (rd_len s ra rb k))
/-- is None, is of two bools -/
def dIs : D → D → Option Sl
  | .bool a, .bool b => some (.val (.bool (decide (a = b))))
  | .none, .none => some (.val (.bool true))
  | _, .none => some (.val (.bool false))
  | _, _ => none
def dIsnt : D → D → Option Sl
  | .bool a, .bool b => some (.val (.bool (!decide (a = b))))
  | .none, .none => some (.val (.bool false))
  | _, .none => some (.val (.bool true))
  | _, _ => none
theorem non_iff {K : PySem.W.Frag} {F : Hp} {x : V} {a : D} (r : Dp K F x a) (h : a ≠ .none) : decide (x = V.non) = false := by
  refine decide_eq_false fun e => ?_
  subst e
  cases r
  exact h rfl
theorem ov_is : OV X (compareOp .Is) dIs := ov_of (OpR.or op_isBl op_isN) fun x y H Q F a b s ra rb k => by
  unfold dIs at k
  split at k
  · rename_i c d
    rw [bl_of ra, bl_of rb]
    exact .inl ⟨c, d, rfl, rfl, k.val s (.bl _)⟩
  · cases ra
    cases rb
    exact .inr ⟨rfl, k.val s (.bl _)⟩
  · rename_i h1 h2
    cases rb
    exact .inr ⟨rfl, by rw [non_iff ra h2]; exact k.val s (.bl _)⟩
  · exact k.elim
theorem ov_isnt : OV X (compareOp .IsNot) dIsnt := ov_of (OpR.or op_notBl op_notN) fun x y H Q F a b s ra rb k => by
  unfold dIsnt at k
  split at k
  · rename_i c d
    rw [bl_of ra, bl_of rb]
    exact .inl ⟨c, d, rfl, rfl, k.val s (.bl _)⟩
  · cases ra
    cases rb
    exact .inr ⟨rfl, k.val s (.bl _)⟩
  · rename_i h1 h2
    cases rb
    exact .inr ⟨rfl, by rw [non_iff ra h2]; exact k.val s (.bl _)⟩
  · exact k.elim
end
end Mv

namespace Mv
open L2 PySem.Spec PySem PyProof.Rows

section
variable {X : Cx}
/-! ### items, slices -/
def optV (o : Option D) : Option Sl := o.map Sl.val
@[simp] theorem optV_some (d : D) : optV (some d) = some (.val d) := rfl
@[simp] theorem optV_none : optV none = none := rfl
def dIx : D → D → Option Sl
  | .list xs, .int i => optV (atI xs i)
  | .tuple xs, .int i => optV (atI xs i)
  | .str z, .int i => if z.length ≤ LIM then optV ((atI z.cps.toList i).map fun c => .str ⟨#[c]⟩) else none
  | _, _ => none
@[simp] theorem dIx_list (xs : List D) (i : Int) : dIx (.list xs) (.int i) = optV (atI xs i) := rfl
@[simp] theorem dIx_tuple (xs : List D) (i : Int) : dIx (.tuple xs) (.int i) = optV (atI xs i) := rfl
theorem dps_atI {K : PySem.W.Frag} {F : Hp} {vs : List V} {ds : List D} (r : DpAll K F vs ds) {i : Int} {d : D} (h : atI ds i = some d) : ∃ v, atI vs i = some v ∧ Dp K F v d := by
  obtain ⟨j, h1, h2⟩ := Option.bind_eq_some_iff.mp h
  have hl := dps_len r
  have hj : j < vs.length := by rw [hl]; exact (List.getElem?_eq_some_iff.mp h2).1
  refine ⟨vs[j], ?_, dps_get r (List.getElem?_eq_getElem hj) h2⟩
  unfold atI
  rw [hl, h1]
  exact List.getElem?_eq_getElem hj
theorem iv_of {r : R2} {o : D → D → Option Sl} (h : IxR X r) (w : ∀ x y H Q F a b, Same F H → Dp X.K F x a → Dp X.K F y b → Kd X.K F H Q (o a b) → r x y H Q) : IV X o :=
  fun value slice pins s σ H x y v u Q I rx ry ⟨F, a, b, s0, ra, rb, k⟩ => h value slice pins s σ H x y v u Q I rx ry (w x y H Q F a b s0 ra rb k)
theorem rd_ix {x y : V} {H : Hp} {Q : VK} {F : Hp} {a b : D} (s : Same F H) (ra : Dp X.K F x a) (rb : Dp X.K F y b) (k : Kd X.K F H Q (dIx a b)) : rIx X.K x y H Q := by
  unfold dIx at k
  split at k
  · rename_i xs i
    cases h : atI xs i with
    | none => rw [h] at k; exact k.elim
    | some d =>
      rw [h] at k
      obtain ⟨a1, us, rfl, h1, r1⟩ := lst_of ra
      obtain ⟨v, e1, rv⟩ := dps_atI r1 h
      rw [int_of rb]
      exact .inl ⟨a1, us, i, v, rfl, rfl, .inl (rd_mono s h1), e1, k.val s rv⟩
  · rename_i xs i
    cases h : atI xs i with
    | none => rw [h] at k; exact k.elim
    | some d =>
      rw [h] at k
      obtain ⟨a1, us, rfl, h1, r1⟩ := tup_of ra
      obtain ⟨v, e1, rv⟩ := dps_atI r1 h
      rw [int_of rb]
      exact .inr (.inl ⟨a1, us, i, v, rfl, rfl, sqT_mono s h1, e1, k.val s rv⟩)
  · rename_i z i
    split at k
    · rename_i hl
      cases h : atI z.cps.toList i with
      | none => rw [h] at k; exact k.elim
      | some c =>
        rw [h] at k
        rw [str_of ra, int_of rb]
        exact .inr (.inr ⟨z, i, c, rfl, rfl, lim_line hl, h, k.val s (.str _)⟩)
    · exact k.elim
  · exact k.elim
theorem iv_ix : IV X dIx := iv_of ix_seq fun x y H Q F a b s ra rb k => rd_ix s ra rb k
/-- x[e], x a name: an own list stays own -/
def vIxv (i : Nat) (f : M Sl) : M Sl := fun en => match en[i]? with
  | some (.val d) => (vD f en).bind fun k e => opt (dIx d k) e
  | some (.own _ _) => (vD f en).bind fun k e => ownE i e fun _ xs => opt (dIx (.list xs) k) e
  | _ => .bad
theorem ve_ixv {W : WX} {i : Nat} {x : Str} {p pos : Pos} {b : Expr} {f : M Sl} (hb : VE X W b f) (hN : X.N[i]? = some x := by rfl) (hv : Vis X.env.scope x := by first | exact Or.inl rfl | exact Or.inr (Or.inl rfl) | exact Or.inr (Or.inr rfl)) (hd : (x == ("__debug__" : Str)) = false := by decide)
    (hcd : (x == ("__classdict__" : Str)) = false := by decide) (hs : PlainIx b := by exact fun _ _ => rfl) : VE X W (.Subscript (.Name x p) b pos) (vIxv i f) := fun B =>
  peWk (pe_ix ix_seq (pe_var hN hv hd hcd) (hb.d B) hs) fun σ H Q ⟨F, en, S, q⟩ => by
    unfold vIxv at q
    split at q
    · rename_i d h
      obtain ⟨v, h1, h2⟩ := S.val i d h
      exact ⟨v, h1, F, en, S, (Post.bind q).imp fun k en1 F1 H1 S1 s1 q1 y ry => rd_ix S1.sub (dp_mono s1 h2) ry (Post.opt S1 q1)⟩
    · rename_i b0 xs0 h
      obtain ⟨a0, vs0, e0, _⟩ := S.slotL h
      refine ⟨_, e0, F, en, S, (Post.bind q).imp fun k en1 F1 H1 S1 s1 q1 y ry => ?_⟩
      unfold ownE at q1
      split at q1
      · rename_i b1 xs h1
        obtain ⟨a1, vs, e1, l1, r1, _⟩ := S1.slotL h1
        rw [e0] at e1
        cases e1
        dsimp only at q1
        have kd := Post.opt S1 q1
        unfold dIx at kd
        split at kd
        · rename_i ys j hy
          cases hy
          cases hat : atI xs j with
          | none => rw [hat] at kd; exact kd.elim
          | some d =>
            rw [hat] at kd
            obtain ⟨v, e2, rv⟩ := dps_atI r1 hat
            rw [int_of ry]
            exact .inl ⟨_, vs, j, v, rfl, rfl, .inl (.inl l1), e2, kd.val S1.sub rv⟩
        · rename_i hy; cases hy
        · rename_i hy; cases hy
        · exact kd.elim
      · exact q1.elim
    · exact q.elim

/-- a part of a slice -/
def VO (X : Cx) (W : WX) (e : Option Expr) (f : M (Option Int)) : Prop := ∀ B, PO X e (fun σ H Q => ∃ F en, Sim X.K B σ en F H ∧ Post X.K X.mg B W σ F (fun o _ _ H' => Q o H') (f en))
def oNone : M (Option Int) := fun en => .ok none en
def oSome (f : M Sl) : M (Option Int) := fun en => (vD f en).bind fun d e => match d with
  | .int i => .ok (some i) e
  | _ => .bad
theorem poWk {e : Option Expr} {t t' : TO} (h : PO X e t) (w : ∀ σ H Q, t' σ H Q → t σ H Q) : PO X e t' := ⟨fun pins s σ H Q I q => h.run pins s σ H Q I (w _ _ _ q)⟩
theorem vo_none {W : WX} : VO X W none oNone := fun B => poWk po_none fun σ H Q ⟨F, en, S, p⟩ => p F H S (.refl _)
theorem vo_some {W : WX} {e : Expr} {f : M Sl} (h : VE X W e f) : VO X W (some e) (oSome f) := fun B => poWk (po_some (h.d B)) fun σ H Q ⟨F, en, S, p⟩ => by
  refine ⟨F, en, S, (Post.bind p).imp fun d en1 F1 H1 S1 s1 q v rv => ?_⟩
  cases d with
  | int i =>
    cases rv
    exact ⟨i, rfl, q F1 H1 S1 (.refl _)⟩
  | _ => exact q.elim
def cutD (xs : List D) (lo hi : Option Int) : List D := (xs.drop (HT.sIx xs.length 0 lo)).take (HT.sIx xs.length xs.length hi - HT.sIx xs.length 0 lo)
theorem dps_cut {K : PySem.W.Frag} {F : Hp} {us : List V} {xs : List D} (r : DpAll K F us xs) (lo hi : Option Int) : DpAll K F (cutV us lo hi) (cutD xs lo hi) := by
  unfold cutV cutD
  rw [dps_len r]
  exact dps_take _ (dps_drop _ r)
def dSl : D → Option Int → Option Int → Option Sl
  | .list xs, lo, hi => some (.own false (cutD xs lo hi))
  | .tuple xs, lo, hi => some (.val (.tuple (cutD xs lo hi)))
  | .str z, lo, hi => if z.length ≤ LIM then some (.val (.str (cutS z lo hi))) else none
  | _, _, _ => none
@[simp] theorem dSl_list (xs lo hi) : dSl (.list xs) lo hi = some (.own false (cutD xs lo hi)) := rfl
@[simp] theorem dSl_tuple (xs lo hi) : dSl (.tuple xs) lo hi = some (.val (.tuple (cutD xs lo hi))) := rfl
theorem rd_sl {x : V} {lo hi : Option Int} {H : Hp} {Q : VK} {F : Hp} {a : D} (s : Same F H) (ra : Dp X.K F x a) (k : Kd X.K F H Q (dSl a lo hi)) : rSlL X.K x lo hi H Q ∨ rSlA X.K x lo hi H Q ∨ rSlS x lo hi H Q := by
  unfold dSl at k
  split at k
  · rename_i xs
    obtain ⟨a1, us, rfl, h1, r1⟩ := lst_of ra
    exact .inl ⟨a1, us, rfl, .inl (rd_mono s h1), k.lst s (dps_cut r1 _ _)⟩
  · rename_i xs
    obtain ⟨a1, us, rfl, h1, r1⟩ := tup_of ra
    refine .inr (.inl ⟨a1, us, rfl, sqT_mono s h1, fun hw => ?_, fun _ => k.tup s (dps_cut r1 _ _)⟩)
    have e : cutD xs lo hi = xs := by
      unfold cutD
      rw [dps_len r1] at hw
      rw [hw.1, hw.2]
      simp
    rw [e] at k
    exact k.val s ra
  · rename_i z
    split at k
    · rename_i hl
      rw [str_of ra]
      exact .inr (.inr ⟨z, rfl, lim_line hl, k.val s (.str _)⟩)
    · exact k.elim
  · exact k.elim
def vSl (f : M Sl) (l h : M (Option Int)) : M Sl := fun en => (vD f en).bind fun d e => (l e).bind fun lo e2 => (h e2).bind fun hi e3 => opt (dSl d lo hi) e3
theorem ve_slice {W : WX} {e : Expr} {lo hi : Option Expr} {p2 pos : Pos} {f : M Sl} {l h : M (Option Int)} (he : VE X W e f) (hl : VO X W lo l) (hh : VO X W hi h) : VE X W (.Subscript e (.Slice lo hi none p2) pos) (vSl f l h) := fun B =>
  peWk (pe_slice (sl_list.or (sl_tupA.or sl_str)) (he.d B) (hl B) (hh B)) fun σ H Q ⟨F, en, S, p⟩ => by
    refine ⟨F, en, S, (Post.bind p).imp fun d en1 F1 H1 S1 s1 q v rv => ?_⟩
    refine ⟨F1, en1, S1, (Post.bind q).imp fun a en2 F2 H2 S2 s2 q2 => ?_⟩
    refine ⟨F2, en2, S2, (Post.bind q2).imp fun b en3 F3 H3 S3 s3 q3 => ?_⟩
    exact rd_sl S3.sub (dp_mono (s2.trans s3) rv) (Post.opt S3 q3)

/-! ### built-ins -/
theorem cv_of {f : Value} {r : List V → Hp → VK → Prop} {o : List D → Option Sl} (h : CallR X f r) (w : ∀ xs H Q F as, Same F H → DpAll X.K F xs as → Kd X.K F H Q (o as) → r xs H Q) : CV X f o :=
  fun pins s σ H xs us Q I rx ⟨F, as, s0, ra, k⟩ => h pins s σ H xs us Q I rx (w xs H Q F as s0 ra k)
def dLen : List D → Option Sl
  | [.list xs] => some (.val (.int xs.length))
  | [.tuple xs] => some (.val (.int xs.length))
  | [.str z] => if z.length ≤ LIM then some (.val (.int z.length)) else none
  | _ => none
theorem dps1 {K : PySem.W.Frag} {F : Hp} {us : List V} {d : D} (r : DpAll K F us [d]) : ∃ u, us = [u] ∧ Dp K F u d := by
  cases r with
  | cons a b => cases b; exact ⟨_, rfl, a⟩
theorem dps2 {K : PySem.W.Frag} {F : Hp} {us : List V} {d d2 : D} (r : DpAll K F us [d, d2]) : ∃ u u2, us = [u, u2] ∧ Dp K F u d ∧ Dp K F u2 d2 := by
  cases r with
  | cons a b =>
    cases b with
    | cons c b => cases b; exact ⟨_, _, rfl, a, c⟩
theorem cv_len : CV X (.builtin "len") dLen := cv_of (call_len_seq.or call_len_str) fun xs H Q F as s ra k => by
  unfold dLen at k
  split at k
  · obtain ⟨u, rfl, r⟩ := dps1 ra
    obtain ⟨a1, us, rfl, h1, r1⟩ := lst_of r
    exact .inl ⟨a1, us, rfl, .inl (.inl (rd_mono s h1)), by rw [dps_len r1]; exact k.val s (.int _)⟩
  · obtain ⟨u, rfl, r⟩ := dps1 ra
    obtain ⟨a1, us, rfl, h1, r1⟩ := tup_of r
    exact .inl ⟨a1, us, rfl, .inr (sqT_mono s h1), by rw [dps_len r1]; exact k.val s (.int _)⟩
  · obtain ⟨u, rfl, r⟩ := dps1 ra
    split at k
    · rename_i z hl
      rw [str_of r]
      exact .inr ⟨z, rfl, lim_line hl, k.val s (.int _)⟩
    · exact k.elim
  · exact k.elim
/-- len(x), x a name: an own list stays own -/
def vLenv (i : Nat) : M Sl := fun en => match en[i]? with
  | some (.val d) => opt (dLen [d]) en
  | some (.own _ xs) => .ok (.val (.int xs.length)) en
  | _ => .bad
theorem ve_lenv {W : WX} {i : Nat} {x : Str} {p p0 pos : Pos} (hg : Gl X "len") (hm : X.mg "len" = none) (hN : X.N[i]? = some x := by rfl) (hv : Vis X.env.scope x := by first | exact Or.inl rfl | exact Or.inr (Or.inl rfl) | exact Or.inr (Or.inr rfl)) (hd : (x == ("__debug__" : Str)) = false := by decide)
    (hcd : (x == ("__classdict__" : Str)) = false := by decide) (he : starEach [.Name x p] X.env = (false, eval (.Name x p) X.env) :: starEach [] X.env := by rfl) : VE X W (.Call (.Name "len" p0) [.Name x p] [] pos) (vLenv i) := fun B =>
  peWk (pe_callB (call_len_seq.or call_len_str) hg hm PySem.boot_len (pa_cons (pe_var hN hv hd hcd) pa_nil he) (by decide) (by decide) he (by rfl)) fun σ H Q ⟨F, en, S, q⟩ => by
    unfold vLenv at q
    split at q
    · rename_i d h
      obtain ⟨v, h1, h2⟩ := S.val i d h
      refine ⟨v, h1, ?_⟩
      have k := Post.opt S q
      unfold dLen at k
      split at k
      · rename_i hh; cases hh
        obtain ⟨a1, us, rfl, h3, r1⟩ := lst_of h2
        exact .inl ⟨a1, us, rfl, .inl (.inl (rd_mono S.sub h3)), by rw [dps_len r1]; exact k.val S.sub (.int _)⟩
      · rename_i hh; cases hh
        obtain ⟨a1, us, rfl, h3, r1⟩ := tup_of h2
        exact .inl ⟨a1, us, rfl, .inr (sqT_mono S.sub h3), by rw [dps_len r1]; exact k.val S.sub (.int _)⟩
      · rename_i z hh; cases hh
        split at k
        · rename_i hl
          rw [str_of h2]
          exact .inr ⟨z, rfl, lim_line hl, k.val S.sub (.int _)⟩
        · exact k.elim
      · exact k.elim
    · rename_i b xs h
      obtain ⟨a, vs, e0, l0, r0, len⟩ := S.slotL h
      exact ⟨_, e0, .inl ⟨a, vs, rfl, .inl (.inl (.inl l0)), q F H S (.refl _) _ (by rw [len]; exact .int _)⟩⟩
    · exact q.elim
def dAbs : List D → Option Sl
  | [.int i] => some (.val (.int (if i < 0 then -i else i)))
  | _ => none
theorem cv_abs : CV X (.builtin "abs") dAbs := cv_of call_abs fun xs H Q F as s ra k => by
  unfold dAbs at k
  split at k
  · rename_i i
    obtain ⟨u, rfl, r⟩ := dps1 ra
    rw [int_of r]
    exact ⟨i, rfl, k.val s (.int _)⟩
  · exact k.elim
def dInt : List D → Option Sl
  | [.int i] => some (.val (.int i))
  | [.bool b] => some (.val (.int (if b then 1 else 0)))
  | _ => none
theorem cv_int : CV X (.type "int") dInt := cv_of call_int1 fun xs H Q F as s ra k => by
  unfold dInt at k
  split at k
  · rename_i i
    obtain ⟨u, rfl, r⟩ := dps1 ra
    rw [int_of r]
    exact .inl ⟨i, rfl, k.val s (.int _)⟩
  · rename_i b
    obtain ⟨u, rfl, r⟩ := dps1 ra
    rw [bl_of r]
    exact .inr ⟨b, rfl, k.val s (.int _)⟩
  · exact k.elim
def dTuple : List D → Option Sl
  | [.list xs] => some (.val (.tuple xs))
  | [.tuple xs] => some (.val (.tuple xs))
  | _ => none
theorem cv_tuple : CV X (.type "tuple") dTuple := cv_of call_tuple_of fun xs H Q F as s ra k => by
  unfold dTuple at k
  split at k
  · obtain ⟨u, rfl, r⟩ := dps1 ra
    obtain ⟨a1, us, rfl, h1, r1⟩ := lst_of r
    exact ⟨a1, us, rfl, .inl ⟨.inl (rd_mono s h1), k.tup s r1⟩⟩
  · obtain ⟨u, rfl, r⟩ := dps1 ra
    obtain ⟨a1, us, rfl, h1, r1⟩ := tup_of r
    exact ⟨a1, us, rfl, .inr ⟨sqT_mono s h1, k.val s r⟩⟩
  · exact k.elim
def dList : List D → Option Sl
  | [.list xs] => some (.own false xs)
  | [.tuple xs] => some (.own false xs)
  | _ => none
theorem cv_list : CV X (.type "list") dList := cv_of call_list_of fun xs H Q F as s ra k => by
  unfold dList at k
  split at k
  · obtain ⟨u, rfl, r⟩ := dps1 ra
    obtain ⟨a1, us, rfl, h1, r1⟩ := lst_of r
    exact ⟨a1, us, rfl, .inl (.inl (rd_mono s h1)), k.lst s r1⟩
  · obtain ⟨u, rfl, r⟩ := dps1 ra
    obtain ⟨a1, us, rfl, h1, r1⟩ := tup_of r
    exact ⟨a1, us, rfl, .inr (sqT_mono s h1), k.lst s r1⟩
  · exact k.elim
/-- the ints, the bools of a list -/
def intsOf : List D → Option (List Int)
  | [] => some []
  | .int i :: ds => (intsOf ds).map (i :: ·)
  | _ :: _ => none
def boolsOf : List D → Option (List Bool)
  | [] => some []
  | .bool i :: ds => (boolsOf ds).map (i :: ·)
  | _ :: _ => none
theorem intsOf_some : ∀ {ds : List D} {ns : List Int}, intsOf ds = some ns → ds = ns.map PyData.int
  | [], ns, h => by cases h; rfl
  | .int i :: ds, ns, h => by
    obtain ⟨ms, h1, rfl⟩ := Option.map_eq_some_iff.mp (show (intsOf ds).map (i :: ·) = some ns from h)
    rw [intsOf_some h1]; rfl
theorem boolsOf_some : ∀ {ds : List D} {ns : List Bool}, boolsOf ds = some ns → ds = ns.map PyData.bool
  | [], ns, h => by cases h; rfl
  | .bool i :: ds, ns, h => by
    obtain ⟨ms, h1, rfl⟩ := Option.map_eq_some_iff.mp (show (boolsOf ds).map (i :: ·) = some ns from h)
    rw [boolsOf_some h1]; rfl
@[simp] theorem intsOf_map (ns : List Int) : intsOf (ns.map PyData.int) = some ns := by
  induction ns with
  | nil => rfl
  | cons n ns ih => show (intsOf (ns.map PyData.int)).map (n :: ·) = _; rw [ih]; rfl
@[simp] theorem boolsOf_map (ns : List Bool) : boolsOf (ns.map PyData.bool) = some ns := by
  induction ns with
  | nil => rfl
  | cons n ns ih => show (boolsOf (ns.map PyData.bool)).map (n :: ·) = _; rw [ih]; rfl
def dAll : List D → Option Sl
  | [.list xs] => (boolsOf xs).map fun bs => .val (.bool (bs.all id))
  | _ => none
theorem cv_all (hc : X.calm = true) : CV X (.builtin "all") dAll := cv_of (cr_all hc) fun xs H Q F as s ra k => by
  unfold dAll at k
  split at k
  · rename_i ys
    obtain ⟨u, rfl, r⟩ := dps1 ra
    obtain ⟨a1, us, rfl, h1, r1⟩ := lst_of r
    cases hb : boolsOf ys with
    | none => rw [hb] at k; exact k.elim
    | some bs =>
      rw [hb] at k
      rw [boolsOf_some hb] at r1
      rw [dps_bools r1] at h1
      exact ⟨a1, bs, rfl, .inl (rd_mono s h1), k.val s (.bl _)⟩
  · exact k.elim
def dSum : List D → Option Sl
  | [.list xs] => (intsOf xs).map fun ns => .val (.int ns.sum)
  | _ => none
theorem cv_sum (hc : X.calm = true) : CV X (.builtin "sum") dSum := cv_of (cr_sum hc) fun xs H Q F as s ra k => by
  unfold dSum at k
  split at k
  · rename_i ys
    obtain ⟨u, rfl, r⟩ := dps1 ra
    obtain ⟨a1, us, rfl, h1, r1⟩ := lst_of r
    cases hb : intsOf ys with
    | none => rw [hb] at k; exact k.elim
    | some ns =>
      rw [hb] at k
      rw [intsOf_some hb] at r1
      rw [dps_ints r1] at h1
      exact ⟨a1, ns, rfl, .inl (rd_mono s h1), k.val s (.int _)⟩
  · exact k.elim
/-- the greatest, the least of ints -/
def maxI : List Int → Int
  | [] => 0
  | n :: ns => ns.foldl max n
def minI : List Int → Int
  | [] => 0
  | n :: ns => ns.foldl min n
theorem foldl_max_ge : ∀ (ns : List Int) (n : Int), n ≤ ns.foldl max n ∧ ∀ y ∈ ns, y ≤ ns.foldl max n
  | [], n => ⟨Int.le_refl _, fun y hy => by cases hy⟩
  | m :: ns, n => by
    obtain ⟨h1, h2⟩ := foldl_max_ge ns (max n m)
    refine ⟨Int.le_trans (Int.le_max_left _ _) h1, fun y hy => ?_⟩
    rcases List.mem_cons.mp hy with
                                                                                                                  rfl | hy
    · exact Int.le_trans (Int.le_max_right _ _) h1
    · exact h2 y hy
theorem foldl_max_mem : ∀ (ns : List Int) (n : Int), ns.foldl max n = n ∨ ns.foldl max n ∈ ns
  | [], n => .inl rfl
  | m :: ns, n => by
    rcases foldl_max_mem ns (max n m) with h | h
    · rw [List.foldl_cons, h]
      rcases Int.le_total n m with q | q
      · rw [Int.max_eq_right q]; exact .inr List.mem_cons_self
      · rw [Int.max_eq_left q]; exact .inl rfl
    · exact .inr (List.mem_cons_of_mem _ h)
theorem foldl_min_le : ∀ (ns : List Int) (n : Int), ns.foldl min n ≤ n ∧ ∀ y ∈ ns, ns.foldl min n ≤ y
  | [], n => ⟨Int.le_refl _, fun y hy => by cases hy⟩
  | m :: ns, n => by
    obtain ⟨h1, h2⟩ := foldl_min_le ns (min n m)
    refine ⟨Int.le_trans h1 (Int.min_le_left _ _), fun y hy => ?_⟩
    rcases List.mem_cons.mp hy with
                                                                                                                  rfl | hy
    · exact Int.le_trans h1 (Int.min_le_right _ _)
    · exact h2 y hy
theorem foldl_min_mem : ∀ (ns : List Int) (n : Int), ns.foldl min n = n ∨ ns.foldl min n ∈ ns
  | [], n => .inl rfl
  | m :: ns, n => by
    rcases foldl_min_mem ns (min n m) with h | h
    · rw [List.foldl_cons, h]
      rcases Int.le_total n m with q | q
      · rw [Int.min_eq_left q]; exact .inl rfl
      · rw [Int.min_eq_right q]; exact .inr List.mem_cons_self
    · exact .inr (List.mem_cons_of_mem _ h)
theorem maxI_spec {ns : List Int} (h : 0 < ns.length) : maxI ns ∈ ns ∧ ∀ y ∈ ns, y ≤ maxI ns := by
  cases ns with
  | nil => cases h
  | cons n ns =>
    obtain ⟨h1, h2⟩ := foldl_max_ge ns n
    refine ⟨?_, fun y hy => ?_⟩
    · rcases foldl_max_mem ns n with e | e
      · show ns.foldl max n ∈ n :: ns
        rw [e]; exact List.mem_cons_self
      · exact List.mem_cons_of_mem _ e
    · rcases List.mem_cons.mp hy with
                                                                                                                    rfl | hy
      · exact h1
      · exact h2 y hy
theorem minI_spec {ns : List Int} (h : 0 < ns.length) : minI ns ∈ ns ∧ ∀ y ∈ ns, minI ns ≤ y := by
  cases ns with
  | nil => cases h
  | cons n ns =>
    obtain ⟨h1, h2⟩ := foldl_min_le ns n
    refine ⟨?_, fun y hy => ?_⟩
    · rcases foldl_min_mem ns n with e | e
      · show ns.foldl min n ∈ n :: ns
        rw [e]; exact List.mem_cons_self
      · exact List.mem_cons_of_mem _ e
    · rcases List.mem_cons.mp hy with
                                                                                                                    rfl | hy
      · exact h1
      · exact h2 y hy
def dMax : List D → Option Sl
  | [.int i, .int j] => some (.val (.int (max i j)))
  | [.list xs] => match intsOf xs with
    | some (n :: ns) => some (.val (.int (maxI (n :: ns))))
    | _ => none
  | _ => none
def dMin : List D → Option Sl
  | [.int i, .int j] => some (.val (.int (min i j)))
  | [.list xs] => match intsOf xs with
    | some (n :: ns) => some (.val (.int (minI (n :: ns))))
    | _ => none
  | _ => none
theorem cv_max (hc : X.calm = true) : CV X (.builtin "max") dMax := cv_of ((call_max2 hc).or (cr_max hc)) fun xs H Q F as s ra k => by
  unfold dMax at k
  split at k
  · rename_i i j
    obtain ⟨u, u2, rfl, r, r2⟩ := dps2 ra
    rw [int_of r, int_of r2]
    refine .inl ⟨i, j, rfl, ?_⟩
    have e : (if j > i then j else i) = max i j := by split <;> omega
    rw [e]
    exact k.val s (.int _)
  · rename_i ys
    obtain ⟨u, rfl, r⟩ := dps1 ra
    obtain ⟨a1, us, rfl, h1, r1⟩ := lst_of r
    split at k
    · rename_i n ns hb
      rw [intsOf_some hb] at r1
      rw [dps_ints r1] at h1
      refine .inr ⟨a1, n :: ns, rfl, .inl (rd_mono s h1), Nat.succ_pos _, fun m hm hle => ?_⟩
      obtain ⟨z1, z2⟩ := maxI_spec (ns := n :: ns) (Nat.succ_pos _)
      rw [show m = maxI (n :: ns) from Int.le_antisymm (z2 m hm) (hle _ z1)]
      exact k.val s (.int _)
    · exact k.elim
  · exact k.elim
theorem cv_min (hc : X.calm = true) : CV X (.builtin "min") dMin := cv_of ((call_min2 hc).or (cr_min hc)) fun xs H Q F as s ra k => by
  unfold dMin at k
  split at k
  · rename_i i j
    obtain ⟨u, u2, rfl, r, r2⟩ := dps2 ra
    rw [int_of r, int_of r2]
    refine .inl ⟨i, j, rfl, ?_⟩
    have e : (if j < i then j else i) = min i j := by split <;> omega
    rw [e]
    exact k.val s (.int _)
  · rename_i ys
    obtain ⟨u, rfl, r⟩ := dps1 ra
    obtain ⟨a1, us, rfl, h1, r1⟩ := lst_of r
    split at k
    · rename_i n ns hb
      rw [intsOf_some hb] at r1
      rw [dps_ints r1] at h1
      refine .inr ⟨a1, n :: ns, rfl, .inl (rd_mono s h1), Nat.succ_pos _, fun m hm hle => ?_⟩
      obtain ⟨z1, z2⟩ := minI_spec (ns := n :: ns) (Nat.succ_pos _)
      rw [show m = minI (n :: ns) from Int.le_antisymm (hle _ z1) (z2 m hm)]
      exact k.val s (.int _)
    · exact k.elim
  · exact k.elim
end
end Mv

namespace Mv
open L2 PySem.Spec PySem PyProof.Rows

section
variable {X : Cx}
/-! ### repr -/
mutual
/-- no lists and dicts within -/
def flatD : D → Bool
  | .none | .bool _ |
                                                                                                                .int _ | .str _ => true
  | .list _ | .dict _ => false
  | .tuple xs => flatDs xs
def flatDs : List D → Bool
  | [] => true
  | x :: xs => flatD x && flatDs xs
end
def flatKv (kvs : List (D × D)) : Bool := kvs.all fun p => flatD p.1 && flatD p.2
/-- what repr is served of: no dict, or a dict of numbers, texts and tuples of them -/
def repB : D → Bool
  | .dict kvs => flatKv kvs
  | d => !d.hasDict
theorem repB_of {d : D} (h : d.hasDict = false) : repB d = true := by
  cases d with
  | dict kvs => simp only [PyData.hasDict] at h; cases h
  | none => simp only [repB, h, Bool.not_false]
  | bool _ => simp only [repB, h, Bool.not_false]
  | int _ => simp only [repB, h, Bool.not_false]
  | str _ => simp only [repB, h, Bool.not_false]
  | list _ => simp only [repB, h, Bool.not_false]
  | tuple _ => simp only [repB, h, Bool.not_false]
def repOk (d : D) : Prop := d.showable = true ∧ d.shown.length ≤ LIM ∧ d.depth ≤ 100 ∧ repB d = true
instance (d : D) : Decidable (repOk d) := inferInstanceAs (Decidable (_ ∧ _ ∧ _ ∧ _))
def dRepr : List D → Option Sl
  | [d] => if repOk d then some (.val (.str d.shown)) else none
  | _ => none
mutual
theorem flat_reads {h : Heap} : ∀ {d : D} {u : Value} {as : List Addr}, flatD d = true → Reads h u d as → as = []
  | .none, _, _, _, .none => rfl
  | .bool _, _, _, _, .bool _ => rfl
  | .int _, _, _, _, .int _ _ => rfl
  | .str _, _, _, _, .str _ _ => rfl
  | .list _, _, _, h, _ => by simp only [flatD] at h; cases h
  | .dict _, _, _, h, _ => by simp only [flatD] at h; cases h
  | .tuple _, _, _, h, .tuple _ _ _ r => flats_reads (by simpa only [flatD] using h) r
theorem flats_reads {h : Heap} : ∀ {ds : List D} {us : List Value} {as : List Addr}, flatDs ds = true → ReadsAll h us ds as → as = []
  | [], _, _, _, .nil => rfl
  | _ :: _, _, _, h, .cons r rs => by
    simp only [flatDs, Bool.and_eq_true] at h
    rw [flat_reads h.1 r, flats_reads h.2 rs]
    rfl
end
def rReprD (X : Cx) : List V → Hp → VK → Prop := fun xs H Q => ∃ v d F, xs = [v] ∧ Same F H ∧ Dp X.K F v d ∧ repOk d ∧ Q (.str d.shown) H
mutual
theorem flat_noDict : ∀ {d : D}, flatD d = true → d.hasDict = false
  | .none, _ => by simp only [PyData.hasDict]
  | .bool _, _ => by simp only [PyData.hasDict]
  | .int _, _ => by simp only [PyData.hasDict]
  | .str _, _ => by simp only [PyData.hasDict]
  | .list _, h => by simp only [flatD] at h; cases h
  | .dict _, h => by simp only [flatD] at h; cases h
  | .tuple _, h => by simp only [PyData.hasDict]; exact flats_noDict (by simpa only [flatD] using h)
theorem flats_noDict : ∀ {ds : List D}, flatDs ds = true → PyData.hasDictAll ds = false
  | [], _ => by simp only [PyData.hasDictAll]
  | d :: ds, h => by
    simp only [flatDs, Bool.and_eq_true] at h
    simp only [PyData.hasDictAll, flat_noDict h.1, flats_noDict h.2, Bool.or_self]
end
theorem dp_reads {pins : List (Addr × Obj)} {σ : L2.St} {H : Hp} {s : Shared} (I : Inv X pins σ H s) {d : D} {v : V} {u : Value} (h : Dp X.K H v d) (f : flatD d = true) (r : RelV v u) : Reads s.heap u d [] := by
  obtain ⟨as, q⟩ := Dp.reads I d v u (h.l2 (flat_noDict f)) r
  have e := flat_reads f q
  subst e
  exact q
theorem reads_key {h : Heap} {k : Key} {v : Value} (r : keyIs k v = true) : Reads h v (keyD k) [] := by
  rcases keyIs_shape r with ⟨i, t, rfl, rfl⟩ | ⟨x, t, rfl, rfl⟩
  · exact .int i t
  · exact .str x t
theorem reads_dK {pins : List (Addr × Obj)} {σ : L2.St} {H : Hp} {s : Shared} (I : Inv X pins σ H s) : ∀ {es : List DictEntry} {ks : List (Key × V)} {vs : List (Key × Value)} {ds : List (D × D)}, DpKv X.K H ks ds → KV ks vs → Pairs (mixKind X.prog X.w) es vs → flatKv ds = true →
    ReadsAll s.heap (es.map (·.key)) (ds.map (·.1)) [] ∧ ReadsAll s.heap (es.map (·.val)) (ds.map (·.2)) []
  | es, _, _, _, .nil, .nil, p, _ => by
    cases p
    exact ⟨.nil, .nil⟩
  | es, _, _, _, .cons r rs, .cons k kk, p, f => by
    rename_i key v ks d ds q vs
    cases p with
    | @cons e kv es kvs p1 p2 p3 =>
    unfold flatKv at f
    simp only [List.all_cons, Bool.and_eq_true] at f
    obtain ⟨h1, h2⟩ := reads_dK I rs kk p3 f.2
    obtain ⟨k1, k2⟩ := k
    have e1 := reads_key (h := s.heap) (k := q.1) (v := e.key) p1
    rw [← k1] at e1
    have e2 : Reads s.heap e.val d [] := by rw [p2]; exact dp_reads I r f.1.2 k2
    exact ⟨.cons (as := []) (bs := []) e1 h1, .cons (as := []) (bs := []) e2 h2⟩
theorem key_all {K : PySem.W.Frag} {H : Hp} : ∀ (ks : List Key), L2.DpAll K H (ks.map kV) (ks.map keyD)
  | [] => .nil
  | .inl i :: ks => .cons (.int i) (key_all ks)
  | .inr x :: ks => .cons (.str x) (key_all ks)
theorem reads_dT {pins : List (Addr × Obj)} {σ : L2.St} {H : Hp} {s : Shared} (I : Inv X pins σ H s) : ∀ {ks : List (List Key × V)} {xs : List (List Key × Addr × Value)} {ds : List (D × D)}, DpTv X.K H ks ds → KT H ks xs → flatKv ds = true →
    ReadsAll s.heap ((xs.map (entryOfKey (tupleKind (mixKind X.prog X.w)))).map (·.key)) (ds.map (·.1)) [] ∧ ReadsAll s.heap ((xs.map (entryOfKey (tupleKind (mixKind X.prog X.w)))).map (·.val)) (ds.map (·.2)) [] 
  | _, _, _, .nil, .nil, _ => ⟨.nil, .nil⟩
  | _, _, _, .cons r rs, .cons k kk, f => by
    rename_i key v ks d ds q xs
    unfold flatKv at f
    simp only [List.all_cons, Bool.and_eq_true] at f
    obtain ⟨h1, h2⟩ := reads_dT I rs kk f.2
    obtain ⟨k1, k2, k3⟩ := k
    obtain ⟨as, e1⟩ := Dp.reads I (.tuple (key.map keyD)) (.ref q.2.1) (.ref q.2.1) (.tup (.inl (.inl k2)) (key_all key)) rfl
    have e0 := flat_reads f.1.1 e1
    subst e0
    exact ⟨.cons (as := []) (bs := []) e1 h1, .cons (as := []) (bs := []) (dp_reads I r f.1.2 k3) h2⟩
theorem call_reprD (hr : RoomG 0 X.A) : CallR X (.builtin "repr") (rReprD X) := by
  intro pins s σ H xs
  intro us Q I r h
  obtain ⟨v, d, F, rfl, s0, dv, ⟨h1, h2, h3, h4⟩, q⟩ := h
  obtain ⟨u, rfl, ru⟩ : ∃ u, us = [u] ∧ RelV v u := by
    cases r with
    | cons a b => cases b; exact ⟨_, rfl, a⟩
  have hun := hr.r.un
  have dH := dp_mono s0 dv
  have hz := lim_line h2
  cases dH with
  | non =>
    cases ru
    exact PySem.P.repr_of_none ⟨.str _, H, I.tok _, ⟨_, rfl⟩, q⟩
  | bl b =>
    cases ru
    refine PySem.P.repr_of_bool ⟨.str _, H, I.tok _, ⟨_, rfl⟩, ?_⟩
    simpa only [PyData.shown] using q
  | int i =>
    obtain ⟨t, rfl⟩ := ru
    refine PySem.P.repr_of_int (by simpa [PyData.showable] using h1) ⟨.str _, H, I.tok _, ⟨_, rfl⟩, ?_⟩
    simpa only [PyData.shown] using q
  | str x =>
    obtain ⟨t, rfl⟩ := ru
    refine PySem.P.repr_of_str ⟨.str _, H, I.tok _, ⟨_, rfl⟩, ?_⟩ (by simpa only [PyData.shown] using hz)
    simpa only [PyData.shown] using q
  | lst r1 r2 =>
    rename_i ds0
    have nd : (PyData.list ds0).hasDict = false := by simpa [repB] using h4
    have dL := (Dp.lst r1 r2).l2 (by simpa [repB] using h4)
    obtain ⟨as, rd⟩ := Dp.reads I _ _ u dL ru
    cases ru
    exact repr_of_reads' rd h1 (PyData.noDict_hsm nd) hr.g (by omega) (fun _ _ e => e) (fun h' t tk hk => ⟨.str _, H, I.kept hk, ⟨t, rfl⟩, q⟩) hz
  | tup r1 r2 =>
    rename_i ds0
    have nd : (PyData.tuple ds0).hasDict = false := by simpa [repB] using h4
    have dL := (Dp.tup r1 r2).l2 nd
    obtain ⟨as, rd⟩ := Dp.reads I _ _ u dL ru
    cases ru
    exact repr_of_reads' rd h1 (PyData.noDict_hsm nd) hr.g (by omega) (fun _ _ e => e) (fun h' t tk hk => ⟨.str _, H, I.kept hk, ⟨t, rfl⟩, q⟩) hz
  | @dic a ks ds r1 r2 =>
    obtain rfl :
                                                                                                                  u = Value.ref a := ru
    have f : flatKv ds = true := by simpa [repB] using h4
    obtain ⟨_, hsys, vs, kv, o, es, ep, g1, g2, g3, g4, g5, g6⟩ := dk_rd I.hok r1
    obtain ⟨q1, q2⟩ := reads_dK I r2 kv g5 f
    have rd : Reads s.heap (.ref a) (.dict ds) ([a] ++ []) := .dict g1 g2.1 g3 q1 q2
    exact repr_of_reads' rd h1 (fun _ z => by
      have z := List.mem_singleton.mp (by simpa using z)
      rw [← z] at hsys
      simp at hsys) hr.g (by omega) (fun _ _ e => e) (fun h' t tk hk => ⟨.str _, H, I.kept hk, ⟨t, rfl⟩, q⟩) hz
  | @dit a ks ds r1 r2 =>
    obtain rfl :
                                                                                                                  u = Value.ref a := ru
    have f : flatKv ds = true := by simpa [repB] using h4
    obtain ⟨_, hsys, xs, kt, o, es, ep, g1, g2, g3, g4, g5, g6⟩ := dt_rd I.hok r1
    obtain ⟨q1, q2⟩ := reads_dT I r2 kt f
    rw [← g4] at q1 q2
    have rd : Reads s.heap (.ref a) (.dict ds) ([a] ++ []) := .dict g1 g2.1 g3 q1 q2
    exact repr_of_reads' rd h1 (fun _ z => by
      have z := List.mem_singleton.mp (by simpa using z)
      rw [← z] at hsys
      simp at hsys) hr.g (by omega) (fun _ _ e => e) (fun h' t tk hk => ⟨.str _, H, I.kept hk, ⟨t, rfl⟩, q⟩) hz
theorem cv_repr (hr : RoomG 0 X.A) : CV X (.builtin "repr") dRepr := cv_of (call_reprD hr) fun xs H Q F as s ra k => by
  unfold dRepr at k
  split at k
  · rename_i d
    obtain ⟨u, rfl, r⟩ := dps1 ra
    split at k
    · rename_i hk
      exact ⟨u, d, F, rfl, s, r, hk, k.val s (.str _)⟩
    · exact k.elim
  · exact k.elim

/-! ### in -/
def rInT (K : PySem.W.Frag) : R2 := fun x y H Q => ∃ d ds, L2.Dp K H x d ∧ L2.Dp K H y (.tuple ds) ∧ SeqAt.shaped d = true ∧ SeqAt.shaped (.tuple ds) = true ∧ Q (.bl (ds.any fun z => PyData.eqv z d)) H
def rNotInT (K : PySem.W.Frag) : R2 := fun x y H Q => ∃ d ds, L2.Dp K H x d ∧ L2.Dp K H y (.tuple ds) ∧ SeqAt.shaped d = true ∧ SeqAt.shaped (.tuple ds) = true ∧ Q (.bl (!ds.any fun z => PyData.eqv z d)) H
theorem canLays_of {ds : List D} (h : SeqAt.shaped (.tuple ds) = true) : PyData.canLayAll0 ds = true := by
  have h' := SeqAt.canLay_of_shaped h
  simpa only [PyData.canLay0] using h'
theorem op_inT (hu : X.A.units + 65 < cLine) : OpR X (compareOp .In) (rInT X.K) := by
  intro pins s σ H x y
  intro v u Q I rx ry h
  obtain ⟨d, ds, hd,
                                                                                                                he, sd, se, q⟩ := h
  obtain ⟨as, r1⟩ :=
                                                                                                                Dp.reads I d x v hd rx
  obtain ⟨bs, r2⟩ := Dp.reads I (.tuple ds) y u he ry
  exact SeqAt.in_tuple_reads r2 r1 (canLays_of se) (SeqAt.canLay_of_shaped sd) (room_in_shaped sd hu) ⟨.bl _, H, I, rfl, q⟩
theorem op_notInT (hu : X.A.units + 65 < cLine) : OpR X (compareOp .NotIn) (rNotInT X.K) := by
  intro pins s σ H x y
  intro v u Q I rx ry h
  obtain ⟨d, ds, hd,
                                                                                                                he, sd, se, q⟩ := h
  obtain ⟨as, r1⟩ :=
                                                                                                                Dp.reads I d x v hd rx
  obtain ⟨bs, r2⟩ := Dp.reads I (.tuple ds) y u he ry
  exact SeqAt.notIn_tuple_reads r2 r1 (canLays_of se) (SeqAt.canLay_of_shaped sd) (room_in_shaped sd hu) ⟨.bl _, H, I, rfl, q⟩
def anyEq (ds : List D) (d : D) : Bool := ds.any fun z => PyData.eqv z d
def dIn : D → D → Option Sl := fun d c => if SeqAt.shaped d = true ∧ SeqAt.shaped c = true then (match c with
  | .list ds => some (.val (.bool (anyEq ds d)))
  | .tuple ds => some (.val (.bool (anyEq ds d)))
  | _ => none) else none
def dNotIn : D → D → Option Sl := fun d c => if SeqAt.shaped d = true ∧ SeqAt.shaped c = true then (match c with
  | .list ds => some (.val (.bool (!anyEq ds d)))
  | .tuple ds => some (.val (.bool (!anyEq ds d)))
  | _ => none) else none
theorem ov_in (hr : RoomG 0 X.A) : OV X (compareOp .In) dIn := ov_of (OpR.or (op_inD (by have := hr.r.un; omega)) (op_inT (by have := hr.r.un; omega))) fun x y H Q F a b s ra rb k => by
  unfold dIn at k
  split at k
  · rename_i h
    split at k
    · exact .inl ⟨a, _, (dp_mono s ra).l2 (noDict_lay (SeqAt.canLay_of_shaped h.1)), (dp_mono s rb).l2 (noDict_lay (SeqAt.canLay_of_shaped h.2)), h.1, h.2, k.val s (.bl _)⟩
    · exact .inr ⟨a, _, (dp_mono s ra).l2 (noDict_lay (SeqAt.canLay_of_shaped h.1)), (dp_mono s rb).l2 (noDict_lay (SeqAt.canLay_of_shaped h.2)), h.1, h.2, k.val s (.bl _)⟩
    · exact k.elim
  · exact k.elim
theorem ov_notIn (hr : RoomG 0 X.A) : OV X (compareOp .NotIn) dNotIn := ov_of (OpR.or (op_notInD (by have := hr.r.un; omega)) (op_notInT (by have := hr.r.un; omega))) fun x y H Q F a b s ra rb k => by
  unfold dNotIn at k
  split at k
  · rename_i h
    split at k
    · exact .inl ⟨a, _, (dp_mono s ra).l2 (noDict_lay (SeqAt.canLay_of_shaped h.1)), (dp_mono s rb).l2 (noDict_lay (SeqAt.canLay_of_shaped h.2)), h.1, h.2, k.val s (.bl _)⟩
    · exact .inr ⟨a, _, (dp_mono s ra).l2 (noDict_lay (SeqAt.canLay_of_shaped h.1)), (dp_mono s rb).l2 (noDict_lay (SeqAt.canLay_of_shaped h.2)), h.1, h.2, k.val s (.bl _)⟩
    · exact k.elim
  · exact k.elim

/-! ### isinstance -/
def tyOf : D → String
  | .none => "NoneType"
  | .bool _ => "bool"
  | .int _ => "int"
  | .str _ => "str"
  | .list _ => "list"
  | .tuple _ => "tuple"
  | .dict _ => "dict"
/-- types, of a locked dict with tuple keys, too -/
inductive TyY (K : PySem.W.Frag) (H : Hp) : V → Value → Prop where
  | x {v : V} {t : Value} : TyX K H v t → TyY K H v t
  | fT {a : Addr} {o : Obj} {kvs : List (List Key × V)} : H a = some (.frz o (.dT kvs)) → TyY K H (.ref a) (.type "dict")
theorem kit_of2 {pins : List (Addr × Obj)} {σ : L2.St} {H : Hp} {s : Shared} {x : V} {u t : Value} (I : Inv X pins σ H s) (rx : RelV x u) (ty : TyY X.K H x t) : ∃ P : Heap → Prop, PySem.W.KitX X.K u t P ∧ P s.heap ∧ u ≠ .builtin "__main__.__loader__#opaque" := by
  cases ty with
  | x h => exact kit_of I rx h
  | @fT a o kvs ea =>
    cases
                                                                                                                  (show u = Value.ref a from rx)
    obtain ⟨_, _, _, xs, _, o, es, ep, h1, h2, _⟩ := (show ObjOk X.prog X.w H s.heap a (.frz o (.dT kvs)) from I.hok a _ ea)
    exact ⟨_, PySem.W.kitx_dict,
                                                                                                                  ⟨o, h1, h2.1⟩, fun z => nomatch z⟩
def rIsi2 (K : PySem.W.Frag) : List V → Hp → VK → Prop := fun xs H Q => ∃ x c t u b, xs = [x, c] ∧ ClsV c u ∧ TyY K H x t ∧ PySem.W.kitOne K t u = some b ∧ Q (.bl b) H
theorem call_isi2 : CallR X (.builtin "isinstance") (rIsi2 X.K) := by
  intro pins s σ H xs
  intro us Q I r h
  obtain ⟨x, c, t, u, b,
                                                                                                                rfl, k, ty, e, q⟩ := h
  obtain ⟨u1, u2, rfl,
                                                                                                                r1, r2⟩ := vals2 r
  have e2 := k.eq r2
  subst e2
  obtain ⟨P, Z, p, hx⟩ := kit_of2 I r1 ty
  exact PySem.W.kia_one Z I.kIn p e hx fun tk =>
                                                                                                                ⟨.bl b, H, I.tok tk, rfl, q⟩
theorem tyx_of {K : PySem.W.Frag} {F : Hp} {v : V} {d : D} (h : Dp K F v d) : TyY K F v (.type (tyOf d)) := by
  cases h with
  | non => exact .x (.base .non)
  | bl b => exact .x (.base (.bl b))
  | int i => exact .x (.base (.int i))
  | str x => exact .x (.base (.str x))
  | lst h _ =>
    rcases h with h | ⟨o, h⟩
    · exact .x (.base (.lst h))
    · exact .x (.base (.frz h))
  | tup h _ =>
    rcases h with
                                                                                                                  (h | ⟨o, h⟩) | h
    · exact .x (.base (.tup h))
    · exact .x (.fTuple h)
    · obtain ⟨o, its, n, h1, h2, _⟩ := h
      exact .x (.kTuple h1 h2)
  | dic h _ =>
    rcases h with h | ⟨o, h⟩
    · exact .x (.base (.dK h))
    · exact .x (.fDict h)
  | dit h _ =>
    rcases h with h | ⟨o, h⟩
    · exact .x (.base (.dT h))
    · exact .fT h
def isiD (T : String) (d : D) : Option Sl := (kitB (tyOf d) T).map fun b => .val (.bool b)
variable {W : WX} {e : Expr} {f : M Sl}
theorem ve_isi {T : String} {tn : Str} {p p2 pos : Pos} (h : VE X W e f) (hg : Gl X "isinstance") (hm : X.mg "isinstance" = none) (hg2 : Gl X tn) (hm2 : X.mg tn = none) (hb : bootBuiltins tn = some (.type T)) (hn : tn ≠ "__name__" := by decide) (hdb : (tn == ("__debug__" : Str)) = false := by decide)
    (he : starEach [e, .Name tn p2] X.env = (false, eval e X.env) :: starEach [.Name tn p2] X.env := by rfl) (he2 : starEach [.Name tn p2] X.env = (false, eval (.Name tn p2) X.env) :: starEach [] X.env := by rfl) (hpl : (backTo pos (starEach [.Name tn p2] X.env)).any (·.1) = false := by rfl) :
    VE X W (.Call (.Name "isinstance" p) [e, .Name tn p2] [] pos) (vUn (isiD T) f) := fun B =>
  peWk (pe_callB call_isi2 hg hm PyProof.Rows.boot_isinstance (pa_cons (h.d B) (pa_cons (pe_bltn (v := .ty T) hg2 hm2 hb rfl hn hdb) pa_nil he2) he) (by decide) (by decide) he hpl) fun σ H Q ⟨F, en, S, q⟩ => by
    refine ⟨F, en, S, (Post.bind q).imp fun d en1 F1 H1 S1 s1 q1 v rv => ?_⟩
    have k := Post.opt S1 q1
    unfold isiD at k
    cases hk : kitB (tyOf d) T with
    | none => rw [hk] at k; exact k.elim
    | some b =>
      rw [hk] at k
      exact ⟨v, .ty T, .type (tyOf d), .type T, b, rfl, .ty T, tyx_of (dp_mono S1.sub rv), kit_ty hk, k.val S1.sub (.bl b)⟩

/-! ### a < b < c -/
def vChain (o o2 : D → D → Option Sl) (fa fb fc : M Sl) : M Sl := fun en => (vD fa en).bind fun x e => (vD fb e).bind fun y e2 => match o x y with
  | some (.val (.bool true)) => (vD fc e2).bind fun z e3 => opt (o2 y z) e3
  | some (.val (.bool false)) => .ok (.val (.bool false)) e2
  | _ => .bad
variable {a b c : Expr} {fa fb fc : M Sl}
def rOf (X : Cx) (o : D → D → Option Sl) : R2 := fun x y H Q => ∃ F a b, Same F H ∧ Dp X.K F x a ∧ Dp X.K F y b ∧ Kd X.K F H Q (o a b)
theorem rd_chain {op op2 : CmpOp} {o o2 : D → D → Option Sl} {B : Bs} :
    ∀ σ H Q, tV X.K X.mg B W (vChain o o2 fa fb fc) σ H Q → tChain (rOf X o) (rOf X o2) (tD X.K X.mg B W (vD fa)) (tD X.K X.mg B W (vD fb)) (tD X.K X.mg B W (vD fc)) σ H Q := fun σ H Q ⟨F, en, S, p⟩ => by
  refine ⟨F, en, S, (Post.bind p).imp fun d en1 F1 H1 S1 s1 q v rv => ?_⟩
  refine ⟨F1, en1, S1, (Post.bind q).imp fun d2 en2 F2 H2 S2 s2 q2 v2 rv2 => ?_⟩
  refine ⟨F2, d, d2, S2.sub, dp_mono s2 rv, rv2, ?_⟩
  split at q2
  · rename_i ho
    rw [ho]
    intro F3 H3 w g rw'
    cases rw'
    refine ⟨true, rfl, ?_⟩
    rw [if_pos rfl]
    refine ⟨F3, en2, S2.gr g, (Post.bind (q2.up g.ff)).imp fun d3 en4 F4 H4 S4 s4 q4 v4 rv4 => ?_⟩
    exact ⟨F4, d2, d3, S4.sub, dp_mono (g.ff.trans s4) rv2, rv4, Post.opt S4 q4⟩
  · rename_i ho
    rw [ho]
    intro F3 H3 w g rw'
    cases rw'
    refine ⟨false, rfl, ?_⟩
    rw [if_neg (Bool.false_ne_true)]
    exact q2 F3 H3 (S2.gr g) g.ff _ (.bl false)
  · exact q2.elim
theorem ve_chain {op op2 : CmpOp} {o o2 : D → D → Option Sl} {pos : Pos} (ho : OV X (compareOp op) o) (ho2 : OV X (compareOp op2) o2) (ha : VE X W a fa) (hb : VE X W b fb) (hc : VE X W c fc) (hm : lastMarks [op, op2] [b, c] = false := by with_unfolding_all rfl) :
    VE X W (.Compare a [op, op2] [b, c] pos) (vChain o o2 fa fb fc) := fun B => peWk (pe_chain (r := rOf X o) (r' := rOf X o2) ho ho2 (ha.d B) (hb.d B) (hc.d B) hm) (rd_chain (op := op) (op2 := op2))
theorem vb_chain {op op2 : CmpOp} {o o2 : D → D → Option Sl} {pos : Pos} (ho : OV X (compareOp op) o) (ho2 : OV X (compareOp op2) o2) (ha : VE X W a fa) (hb : VE X W b fb) (hc : VE X W c fc) (hm : lastMarks [op, op2] [b, c] = false := by with_unfolding_all rfl) :
    VB X W (.Compare a [op, op2] [b, c] pos) (vB (vChain o o2 fa fb fc)) := fun B =>
  ptWk (pt_chain (r := rOf X o) (r' := rOf X o2) ho ho2 (ha.d B) (hb.d B) (hc.d B) hm) fun σ H Q ⟨F, en, S, p⟩ => by
    refine rd_chain (op := op) (op2 := op2) σ H _ ⟨F, en, S, ?_⟩
    have p2 : Post X.K X.mg B W σ F (fun b _ _ H' => Q b H') ((vChain o o2 fa fb fc en).bind fun r e => (frzS r e).bind bOf) := by
      have e : vB (vChain o o2 fa fb fc) en = (vChain o o2 fa fb fc en).bind fun r e => (frzS r e).bind bOf := by
        unfold vB vD
        cases vChain o o2 fa fb fc en <;> rfl
      rw [← e]; exact p
    refine (Post.bind p2).imp fun r en1 F1 H1 S1 s1 q v rv => ?_
    cases r with
    | no => exact rv.elim
    | own b xs =>
      obtain ⟨rfl, _⟩ := rv
      exact q.elim
    | val d =>
      cases d with
      | bool k =>
        cases rv
        exact ⟨k, rfl, q F1 H1 S1 (.refl _)⟩
      | _ => exact q.elim

/-! ### x += e, x[k] += e, ints -/
def sAug (i : Nat) (g : Int → Int → Int) (f : M Sl) : MS := fun en => match en[i]? with
  | some (.val (.int x)) => (vD f en).bind fun d e => match d with
    | .int y => .ok .nx (e.set i (.val (.int (g x y))))
    | _ => .bad
  | _ => .bad
theorem vs_aug {i : Nat} {x : Str} {op : Operator} {g : Int → Int → Int} {p pos : Pos} (hN : X.N.Nodup) (ho : PIp X op (ipI g)) (he : VE X W e f) (hi : X.N[i]? = some x := by rfl) (hx : Loc X.env.scope x := by first | exact Or.inl rfl | exact Or.inr rfl)
    (hf : X.fn x = true ∨ X.env.scope.names.lookup x = some .local := by first | exact .inl rfl | exact .inr rfl) : VS X W (.AugAssign (.Name x p) op e pos) (sAug i g f) := fun B =>
  psWk (ps_aug hN hi hx (he.d B) ho hf) fun Dn σ H ⟨F, en, S, q⟩ => by
    unfold sAug at q
    split at q
    · rename_i z hz
      obtain ⟨v, h1, h2⟩ := S.val i _ hz
      cases h2
      refine ⟨_, h1, F, en, S, (PostS.bind q).imp fun d en1 F1 H1 S1 s1 q1 y ry => ?_⟩
      cases d with
      | int k =>
        cases ry
        exact ⟨z, k, rfl, rfl, q1 _ F1 H1 (S1.store (s := .val _) (.int _)) (.refl _)⟩
      | _ => exact q1.elim
    · exact q.elim
def rGetL : V → V → Hp → VK → Prop := fun o i H Q => ∃ p xs k x, o = .ref p ∧ i = .int k ∧ H p = some (.lst xs) ∧ atI xs k = some x ∧ Q x H
theorem get_list : PGet X rGetL := by
  intro pins s σ H o i ov iv Q I ro ri h
  obtain ⟨p, xs, k, x, rfl, rfl, hp, hx, q⟩ := h
  cases ro
  obtain ⟨t, rfl⟩ := ri
  obtain ⟨its, n, r,
                                                                                                                ho, hz⟩ := I.lst hp
  obtain ⟨j, h1, h2⟩ := Option.bind_eq_some_iff.mp hx
  obtain ⟨_, hj, h3, h4⟩ := ixN_seq h1
  have hl := r.length
  have hn := line63
  have hjl :
                                                                                                                j < its.length := by omega
  have rx : RelV x its[j] := by
    obtain ⟨u, e1, e2⟩ := Vals.get r h2
    rw [List.getElem?_eq_getElem hjl] at e1
    rw [Option.some.inj e1]
    exact e2
  have fin : EP X pins σ Q its[j] s := ⟨x, H, I, rx, q⟩
  by_cases h0 : 0 ≤ k
  · have e : k.toNat = j := by
      unfold ixN at h1
      rw [if_pos h0, if_pos h4] at h1
      exact Option.some.inj h1
    exact PySem.wpAny_getItem_list ⟨_, ho, rfl, _, rfl⟩ h0 (by omega) (by rw [e]; simpa using List.getElem?_eq_getElem hjl) fin
  · have e : (k + its.toArray.size).toNat = j := by
      unfold ixN at h1
      rw [if_neg h0, if_pos h3] at h1
      rw [← Option.some.inj h1, List.size_toArray, hl]
    exact PySem.wpAny_getItem_list_neg ⟨_, ho, rfl, _, rfl⟩ (by omega) (by rw [List.size_toArray, ← hl]; exact h3) (by omega) (by rw [e]; simpa using List.getElem?_eq_getElem hjl) fin
def sAugS (i : Nat) (g : Int → Int → Int) (fk f : M Sl) : MS := fun en => ownAt i en fun _ _ => (vD fk en).bind fun k e => ownAt i e fun _ xs => match dIx (.list xs) k with
  | some (.val (.int x)) => (vD f e).bind fun d e2 => match d with
    | .int y => setAt i k (.int (g x y)) e2
    | _ => .bad
  | _ => .bad
theorem vs_augS {i : Nat} {x : Str} {ek : Expr} {fk : M Sl} {op : Operator} {g : Int → Int → Int} {p p2 pos : Pos} (ho : PIp X op (ipI g)) (hk : VE X W ek fk) (he : VE X W e f) (hN : X.N[i]? = some x := by rfl) (hv : Vis X.env.scope x := by first | exact Or.inl rfl | exact Or.inr (Or.inl rfl)) (hd : (x == ("__debug__" : Str)) = false := by decide)
    (hcd : (x == ("__classdict__" : Str)) = false := by decide) (ha : ∀ ov iv new, augStore ek ov iv new = (do holding [new, ov, iv] (setItem ov iv new); release [new, ov, iv] []; pure .next) := by intros; rfl) : VS X W (.AugAssign (.Subscript (.Name x p) ek p2) op e pos) (sAugS i g fk f) := fun B =>
  psWk (ps_augS (pe_var hN hv hd hcd) (hk.d B) get_list (he.d B) ho set_list ha) fun Dn σ H ⟨F, en, S, q⟩ => by
    unfold sAugS ownAt at q
    split at q
    · rename_i b0 xs0 h0
      obtain ⟨a0, vs0, e0, _⟩ := S.slotL h0
      refine ⟨_, e0, F, en, S, (PostS.bind q).imp fun k en1 F1 H1 S1 s1 q1 y ry => ?_⟩
      split at q1
      · rename_i b1 xs h1
        obtain ⟨a1, vs, e1, l1, r1, _⟩ := S1.slotL h1
        rw [e0] at e1
        cases e1
        dsimp only at q1
        split at q1
        · rename_i z hz
          unfold dIx at hz
          cases k with
          | int j =>
            dsimp only at hz
            cases hat : atI xs j with
            | none => rw [hat] at hz; cases hz
            | some d0 =>
              rw [hat] at hz
              cases hz
              obtain ⟨v0, e2, rv0⟩ := dps_atI r1 hat
              cases rv0
              have ryj := ry
              cases ryj
              refine ⟨_, vs, j, _, rfl, rfl, l1, e2, F1, en1, S1, (PostS.bind q1).imp fun d en2 F2 H2 S2 s2 q2 y2 ry2 => ?_⟩
              cases d with
              | int w =>
                cases ry2
                refine ⟨z, w, rfl, rfl, ?_⟩
                obtain ⟨a, e3, st⟩ := setAt_ok S2 (dp_mono s2 ry) (.int (g z w)) q2
                rw [e0] at e3
                cases e3
                exact st
              | _ => exact q2.elim
          | _ => cases hz
        · exact q1.elim
      · exact q1.elim
    · exact q.elim

/-! ### x[::-1] -/
def dRevL : D → Option Sl
  | .list xs => some (.own false xs.reverse)
  | _ => none
theorem ve_revL {k : Nat} {p1 p2 p3 pos : Pos} (he : VE X W e f) : VE X W (.Subscript e (.Slice none none (some (.UnaryOp .USub (.Constant (.int 1) k p1) p2)) p3) pos) (vUn dRevL f) := fun B => peWk (pe_revL (he.d B)) fun σ H Q ⟨F, en, S, q⟩ => by
  refine ⟨F, en, S, (Post.bind q).imp fun d en1 F1 H1 S1 s1 q1 v rv => ?_⟩
  have k := Post.opt S1 q1
  unfold dRevL at k
  split at k
  · rename_i xs
    obtain ⟨a1, us, rfl, h1, r1⟩ := lst_of rv
    exact ⟨a1, us, rfl, .inl (rd_mono S1.sub h1), k.lst S1.sub (dps_rev r1)⟩
  · exact k.elim
end
end Mv

namespace Mv
open L2 PySem.Spec PySem PyProof.Rows

/-! ### several results, each frozen or a new own list -/
def Rls (K : PySem.W.Frag) (B : Bs) (σ : L2.St) (en : En) (F H : Hp) : List V → List Sl → Prop
  | [], [] => True
  | v :: vs, r :: rs => Rl K B σ en F H v r ∧ (∀ b xs, r = .own b xs → ∀ (j : Nat) b' ys, rs[j]? = some (Sl.own b' ys) → vs[j]? ≠ some v) ∧ Rls K B σ en F H vs rs
  | _, _ => False
section
variable {K : PySem.W.Frag} {mg : Str → Option Value} {B : Bs} {W : WX} {σ : L2.St} {en en' : En} {F F' F1 H H' : Hp} {α : Type}
theorem Rls.len : ∀ {vs : List V} {rs : List Sl}, Rls K B σ en F H vs rs → vs.length = rs.length
  | [], [], _ => rfl
  | _ :: _, _ :: _, h => by rw [List.length_cons, List.length_cons, Rls.len h.2.2]
  | [], _ :: _, h => h.elim
  | _ :: _, [], h => h.elim
theorem Rl.gr {v : V} {r : Sl} (h : Rl K B σ en F H v r) (g : Gr F H F' H') : Rl K B σ en F' H' v r := by
  cases r with
  | no => exact h
  | val d => exact dp_mono g.ff h
  | own b xs =>
    obtain ⟨h0, a, vs, h1, h2, h3, h4, h5⟩ := h
    refine ⟨h0, a, vs, h1, g.hh _ _ h2, ?_, dps_mono g.ff h4, h5⟩
    cases q : F' a with
    | none => rfl
    | some o =>
      rcases g.nw a o q with e | e
      · rw [h3] at e; cases e
      · rw [h2] at e; cases e
theorem Rls.gr (g : Gr F H F' H') : ∀ {vs : List V} {rs : List Sl}, Rls K B σ en F H vs rs → Rls K B σ en F' H' vs rs
  | [], [], _ => trivial
  | _ :: _, _ :: _, h => ⟨h.1.gr g, h.2.1, Rls.gr g h.2.2⟩
  | [], _ :: _, h => h.elim
  | _ :: _, [], h => h.elim
/-- out of a state with one more thing to be kept -/
theorem Rls.outer {F0 : Hp} {a : Addr} {us : List V} : ∀ {vs : List V} {rs : List Sl}, Rls K (B.more F0 a us) σ en F H vs rs → Rls K B σ en F H vs rs ∧ ∀ (j : Nat) b ys, rs[j]? = some (Sl.own b ys) → vs[j]? ≠ some (.ref a)
  | [], [], _ => ⟨trivial, fun j b ys h => by simp at h⟩
  | v :: vs, r :: rs, h => by
    obtain ⟨h1, h2, h3⟩ := h
    obtain ⟨i1, i2⟩ := Rls.outer h3
    have key : Rl K B σ en F H v r ∧ ∀ b ys, r = .own b ys → v ≠ .ref a := by
      cases r with
      | no => exact h1.elim
      | val d => exact ⟨h1, fun _ _ e => by cases e⟩
      | own b xs =>
        obtain ⟨h0, c, ws, rfl, q2, q3, q4, q5, q6, q7⟩ := h1
        have q5' : upd B.Kp a (.lst us) c = none := q5
        have hca : c ≠ a := fun z => by rw [z, upd_same] at q5'; cases q5'
        rw [upd_ne hca] at q5'
        exact ⟨⟨h0, c, ws, rfl, q2, q3, q4, q5', fun z => q6 (.inl z), q7⟩, fun _ _ _ e => hca (by cases e; rfl)⟩
    refine ⟨⟨key.1, h2, i1⟩, fun j b ys hj => ?_⟩
    cases j with
    | zero =>
      simp at hj
      intro e
      simp at e
      exact key.2 b ys hj e
    | succ j => exact i2 j b ys (by simpa using hj)
  | [], _ :: _, h => h.elim
  | _ :: _, [], h => h.elim
theorem Rl.after {i : Nat} {v w : V} {r s : Sl} (hw : Rl K B σ en F H w s) (hd : ∀ b xs, r = .own b xs → ∀ b' ys, s = .own b' ys → w ≠ v) : Rl K B (σ.set i (some v)) (en.set i r) F H w s := by
  cases s with
  | no => exact hw
  | val d => exact hw
  | own b xs =>
    obtain ⟨h0, c, ws, rfl, q2, q3, q4, q5, q6, q7⟩ := hw
    refine ⟨h0, c, ws, rfl, q2, q3, q4, q5, q6, fun k hk e => ?_⟩
    rcases isOwn_set hk with ⟨rfl, b', ys, hr⟩ | ⟨hki, hk⟩
    · rw [List.getElem?_set, if_pos rfl] at e
      split at e
      · exact hd b' ys hr b xs rfl (by cases e; rfl)
      · cases e
    · rw [List.getElem?_set_ne (Ne.symm hki)] at e
      exact q7 k hk e
theorem Rls.after {i : Nat} {v : V} {r : Sl} : ∀ {vs : List V} {rs : List Sl}, Rls K B σ en F H vs rs → (∀ b xs, r = .own b xs → ∀ (j : Nat) b' ys, rs[j]? = some (Sl.own b' ys) → vs[j]? ≠ some v) → Rls K B (σ.set i (some v)) (en.set i r) F H vs rs
  | [], [], _, _ => trivial
  | w :: vs, s :: rs, h, hd => ⟨h.1.after fun b xs e b' ys e2 e3 => hd b xs e 0 b' ys (by rw [e2]; rfl) (by rw [e3]; rfl), h.2.1, Rls.after h.2.2 fun b xs e j b' ys hj => by
      have := hd b xs e (j + 1) b' ys (by simpa using hj)
      simpa using this⟩
  | [], _ :: _, h, _ => h.elim
  | _ :: _, [], h, _ => h.elim
def storeV : List Nat → List V → L2.St → L2.St
  | i :: is, v :: vs, σ => storeV is vs (σ.set i (some v))
  | _, _, σ => σ
def storeE : List Nat → List Sl → En → Option En
  | [], [], e => some e
  | i :: is, r :: rs, e => storeE is rs (e.set i r)
  | _, _, _ => none
theorem storeE_len : ∀ {is : List Nat} {rs : List Sl} {e e' : En}, storeE is rs e = some e' → rs.length = is.length
  | [], [], _, _, _ => rfl
  | _ :: is, _ :: rs, e, e', h => by rw [List.length_cons, List.length_cons, storeE_len (is := is) h]
  | [], _ :: _, _, _, h => by cases h
  | _ :: _, [], _, _, h => by cases h
theorem Rls.store : ∀ {is : List Nat} {vs : List V} {rs : List Sl} {σ : L2.St} {en en' : En}, Sim K B σ en F H → Rls K B σ en F H vs rs → storeE is rs en = some en' → Sim K B (storeV is vs σ) en' F H
  | [], [], [], σ, en, en', S, _, h => by cases h; exact S
  | i :: is, v :: vs, r :: rs, σ, en, en', S, R, h => Rls.store (is := is) (S.store R.1) (R.2.2.after R.2.1) h
  | [], _ :: _, [], _, _, _, _, R, _ => R.elim
  | _, [], _ :: _, _, _, _, _, R, _ => R.elim
  | [], _ :: _, _ :: _, _, _, _, _, _, h => by cases h
  | _ :: _, [], [], _, _, _, _, _, h => by cases h
  | _ :: _, _ :: _, [], _, _, _, _, R, _ => R.elim
/-- the same, under one more thing to be kept -/
theorem Post.more {a : Addr} {us : List V} {r : R α} {k k2 : α → En → Hp → Hp → Prop} (S0 : Sim K B σ en F H) (hk : B.Kp a = none) (ha : F a = none) (p : Post K mg B W σ F k r)
    (h : ∀ x e F' H', Sim K (B.more F a us) σ e F' H' → Sim K B σ e F' H' → H' a = some (.lst us) → F' a = none → (∀ i, isOwn e i → σ[i]? ≠ some (some (.ref a))) → Same F F' → k x e F' H' → k2 x e F' H') : Post K mg (B.more F a us) W σ F k2 r := by
  cases r with
  | bad => exact p
  | exc c fs e =>
    intro F' H' cls d S s
    exact p F' H' cls d (S.outer S0.f0 S0.new hk ha).1 s
  | ok x e =>
    intro F' H' S s
    obtain ⟨S1, h1, h2, h3⟩ := S.outer S0.f0 S0.new hk ha
    exact h x e F' H' S S1 h1 h2 h3 s (p F' H' S1 s)
def tLs (K : PySem.W.Frag) (mg : Str → Option Value) (B : Bs) (W : WX) (g : M (List Sl)) : TA := fun σ H Q => ∃ F en, Sim K B σ en F H ∧ Post K mg B W σ F (fun rs en' F' H' => ∀ vs, Rls K B σ en' F' H' vs rs → Q vs H') (g en)
end
def VLs (X : Cx) (W : WX) (es : List Expr) (g : M (List Sl)) : Prop := ∀ B, PA X es (tLs X.K X.mg B W g)
def lNil : M (List Sl) := fun en => .ok [] en
def lCons (f : M Sl) (g : M (List Sl)) : M (List Sl) := fun en => (f en).bind fun r e => (g e).bind fun rs e2 => .ok (r :: rs) e2
section
variable {X : Cx} {W : WX} {e : Expr} {es : List Expr} {f : M Sl} {pos : Pos}
theorem vls_nil : VLs X W [] lNil := fun B => paWk pa_nil fun σ H Q ⟨F, en, S, p⟩ => p F H S (.refl _) [] trivial
theorem vls_cons {g : M (List Sl)} (h : VE X W e f) (hr : VLs X W es g) (hs : starEach (e :: es) X.env = (false, eval e X.env) :: starEach es X.env := by rfl) : VLs X W (e :: es) (lCons f g) := fun B =>
  paWk (pa_cons (h B) (t := fun σ H Q => ∃ B', tLs X.K X.mg B' W g σ H Q) ⟨fun pos pins s σ H Q I ⟨B', q⟩ => (hr B').run pos pins s σ H Q I q⟩ hs) fun σ H Q ⟨F, en, S, p⟩ => by
    refine ⟨F, en, S, (Post.bind p).imp fun r en1 F1 H1 S1 s1 q v rv => ?_⟩
    cases r with
    | no => exact rv.elim
    | val d =>
      refine ⟨B, F1, en1, S1, (Post.bind q).imp fun rs en2 F2 H2 S2 s2 q2 vs rvs => ?_⟩
      exact q2 F2 H2 S2 (.refl _) _ ⟨dp_mono s2 rv, fun b xs z => (by cases z), rvs⟩
    | own b xs =>
      obtain ⟨h0, a, us, rfl, h2, h3, h4, h5, h6, h7⟩ := rv
      refine ⟨B.more F1 a us, F1, en1, S1.under (.refl _) (fun c o z => .inl z) h2 h7, ?_⟩
      refine Post.more S1 h5 h3 (Post.bind q) fun rs en2 F2 H2 Sm S2 k1 k2 k3 s2 q2 vs rvs => ?_
      obtain ⟨i1, i2⟩ := rvs.outer
      exact q2 F2 H2 S2 (.refl _) _ ⟨⟨h0, a, us, rfl, k1, k2, dps_mono s2 h4, h5, h6, k3⟩, fun _ _ _ j b' ys hj => i2 j b' ys hj, i1⟩

/-! ### a, b = x, y -/
def sPar (is : List Nat) (g : M (List Sl)) : MS := fun en => (g en).bind fun rs e => match storeE is rs e with
  | some e2 => .ok .nx e2
  | none => .bad
variable {g : M (List Sl)} {a b c : Expr} {x y z : Str} {px py pz pt pt2 : Pos} {kt k2 : Nat}
theorem rd_par {B : Bs} {Dn : Ends} {σ : L2.St} {H : Hp} {is : List Nat} (h : tS X.K X.mg B W (sPar is g) Dn σ H) : tLs X.K X.mg B W g σ H fun vs H1 => vs.length = is.length ∧ Dn.nx (storeV is vs σ) H1 := by
  obtain ⟨F, en, S, p⟩ := h
  refine ⟨F, en, S, (PostS.bind p).imp fun rs en1 F1 H1 S1 s1 q vs rvs => ?_⟩
  cases hs : storeE is rs en1 with
  | none => rw [hs] at q; exact q.elim
  | some e2 =>
    rw [hs] at q
    exact ⟨rvs.len.trans (storeE_len hs), q _ F1 H1 (rvs.store S1 hs) (.refl _)⟩
theorem vs_par2 {i j : Nat} (hc : X.calm = true) (hN : X.N.Nodup) (ha : VLs X W [a, b] g) (hw : swappedStores [.Tuple [.Name x px, .Name y py] kt pt] (.Tuple [a, b] k2 pt2) X.env = pure (some [x, y]))
    (hx : X.env.scope.names.lookup x = some .local) (hy : X.env.scope.names.lookup y = some .local) (hi : X.N[i]? = some x := by rfl) (hj : X.N[j]? = some y := by rfl) (hij : i ≠ j := by decide)
    (hs : swapsWithSole [.Tuple [.Name x px, .Name y py] kt pt] (.Tuple [a, b] k2 pt2) pos.line X.env = pure false := by rfl) : VS X W (.Assign [.Tuple [.Name x px, .Name y py] kt pt] (.Tuple [a, b] k2 pt2) pos) (sPar [i, j] g) := fun B =>
  psWk (ps_par hc hN hi hj hij hx hy (ha B) hw hs) fun Dn σ H h => by
    obtain ⟨F, en, S, p⟩ := rd_par h
    refine ⟨F, en, S, p.imp fun rs en1 F1 H1 S1 s1 q vs rvs => ?_⟩
    obtain ⟨hl, q⟩ := q vs rvs
    match vs, hl, q with
    | [v, w], _, q => exact ⟨v, w, rfl, q⟩
theorem vs_par3 {i j l : Nat} (hc : X.calm = true) (hN : X.N.Nodup) (ha : VLs X W [a, b, c] g) (hw : swappedStores [.Tuple [.Name x px, .Name y py, .Name z pz] kt pt] (.Tuple [a, b, c] k2 pt2) X.env = pure (some [x, y, z]))
    (hx : X.env.scope.names.lookup x = some .local) (hy : X.env.scope.names.lookup y = some .local) (hz : X.env.scope.names.lookup z = some .local) (hi : X.N[i]? = some x := by rfl) (hj : X.N[j]? = some y := by rfl) (hl : X.N[l]? = some z := by rfl) (hij : i ≠ j := by decide) (hil : i ≠ l := by decide) (hjl : j ≠ l := by decide)
    (hs : swapsWithSole [.Tuple [.Name x px, .Name y py, .Name z pz] kt pt] (.Tuple [a, b, c] k2 pt2) pos.line X.env = pure false := by rfl) : VS X W (.Assign [.Tuple [.Name x px, .Name y py, .Name z pz] kt pt] (.Tuple [a, b, c] k2 pt2) pos) (sPar [i, j, l] g) := fun B =>
  psWk (ps_par3 hc hN hi hj hl hij hil hjl hx hy hz (ha B) hw hs) fun Dn σ H h => by
    obtain ⟨F, en, S, p⟩ := rd_par h
    refine ⟨F, en, S, p.imp fun rs en1 F1 H1 S1 s1 q vs rvs => ?_⟩
    obtain ⟨hl, q⟩ := q vs rvs
    match vs, hl, q with
    | [u, v, w], _, q => exact ⟨u, v, w, rfl, q⟩
/-- any names -/
def VNs (X : Cx) (ts : List Expr) (is : List Nat) : Prop := PGs X ts (fun vs σ H Q => vs.length = is.length ∧ Q (storeV is vs σ) H)
theorem vns_nil : VNs X [] [] := pgsWk pgs_nil fun vs σ H Q ⟨hl, q⟩ => by
  cases vs with
  | nil => exact ⟨rfl, q⟩
  | cons _ _ => cases hl
theorem vns_cons {i : Nat} {ts : List Expr} {is : List Nat} {p : Pos} (hN : X.N.Nodup) (h : VNs X ts is) (hi : X.N[i]? = some x := by rfl) (hx : Loc X.env.scope x := by first | exact Or.inl rfl | exact Or.inr rfl)
    (hf : X.fn x = true ∨ X.env.scope.names.lookup x = some .local := by first | exact .inl rfl | exact .inr rfl) (hs : (assignEach (.Name x p :: ts) X.env).map (·.2) = assign (.Name x p) X.env :: (assignEach ts X.env).map (·.2) := by rfl) : VNs X (.Name x p :: ts) (i :: is) :=
  pgsWk (pgs_cons (pg_name hN hi hx hf) h hs) fun vs σ H Q ⟨hl, q⟩ => by
    cases vs with
    | nil => cases hl
    | cons v vs => exact ⟨v, vs, rfl, by simpa using hl, q⟩
theorem vs_parN {ts es : List Expr} {is : List Nat} (hc : X.calm = true) (hn : VNs X ts is) (ha : VLs X W es g) (hlim : is.length ≤ 1000 := by decide) (hs : swapsWithSole [.Tuple ts kt pt] (.Tuple es k2 pt2) pos.line X.env = pure false := by rfl) (hw : swappedStores [.Tuple ts kt pt] (.Tuple es k2 pt2) X.env = pure none := by rfl)
    (h1 : (assignEach [.Tuple ts kt pt] X.env).map (·.2) = [assign (.Tuple ts kt pt) X.env] := by rfl) (h2 : (assignEach ts X.env).length = is.length := by rfl) (hst : (assignEach ts X.env).findIdx? (·.1) = none := by rfl) :
    VS X W (.Assign [.Tuple ts kt pt] (.Tuple es k2 pt2) pos) (sPar is g) := fun B =>
  psWk (ps_asg (pe_tup (ha B)) (pg_tup hc hn h2 hst) hs hw h1) fun Dn σ H h => by
    obtain ⟨F, en, S, p⟩ := h
    refine ⟨F, en, S, (PostS.bind p).imp fun rs en1 F1 H1 S1 s1 q vs rvs => ?_⟩
    cases hs : storeE is rs en1 with
    | none => rw [hs] at q; exact q.elim
    | some e2 =>
      rw [hs] at q
      have hl : vs.length = is.length := rvs.len.trans (storeE_len hs)
      refine ⟨by rw [hl]; exact lim_line (Nat.le_trans hlim (by decide)), fun pp hp => ⟨pp, vs, rfl, .inl (.inl upd_same), hl, hl, ?_⟩⟩
      have gr : Gr F1 H1 F1 (upd H1 pp (.tup vs)) := Gr.made S1.sub hp
      exact q _ F1 _ ((rvs.gr gr).store (S1.gr gr) hs) (.refl _)

/-! ### [*a, b] -/
def vStar (f : M Sl) (g : M (List D)) : M (List D) := fun en => (vD f en).bind fun d e => match seqOf d with
  | some xs => (g e).bind fun ds e2 => .ok (xs ++ ds) e2
  | none => .bad
theorem vds_star {g : M (List D)} {p : Pos} (h : VE X W e f) (hr : VDs X W es g) (hs : starEach (.Starred e p :: es) X.env = (true, eval e X.env) :: starEach es X.env := by rfl) : VDs X W (.Starred e p :: es) (vStar f g) := fun B =>
  paWk (StX.pa_star (h.d B) (hr B) hs) fun σ H Q ⟨F, en, S, q⟩ => by
    refine ⟨F, en, S, (Post.bind q).imp fun d en1 F1 H1 S1 s1 q1 v rv => ?_⟩
    split at q1
    · rename_i xs hx
      have go : ∀ us, DpAll X.K F1 us xs → tDs X.K X.mg B W g σ H1 fun vs H2 => Q (us ++ vs) H2 := fun us r1 =>
        ⟨F1, en1, S1, (Post.bind q1).imp fun ds en2 F2 H2 S2 s2 q2 vs rvs => q2 F2 H2 S2 (.refl _) _ (dps_app (dps_mono s2 r1) rvs)⟩
      cases d with
      | list ys =>
        cases hx
        obtain ⟨a1, us, rfl, h1, r1⟩ := lst_of rv
        exact ⟨a1, us, rfl, .inr (.inl (rd_mono S1.sub h1)), go us r1⟩
      | tuple ys =>
        cases hx
        obtain ⟨a1, us, rfl, h1, r1⟩ := tup_of rv
        exact ⟨a1, us, rfl, .inl (sqT_mono S1.sub h1), go us r1⟩
      | _ => cases hx
    · exact q1.elim
end
end Mv

namespace Mv
open L2 PySem.Spec PySem PyProof.Rows

/-- no list stands in what the top has written -/
def noLists (K : PySem.W.Frag) : Bool := K.all fun p => match p.2.cls with
  | .type t => t != "list"
  | _ => true
theorem noLists_none {K : PySem.W.Frag} (h : noLists K = true) {a : Addr} {o : Obj} (hk : K.lookup a = some o) (hc : o.cls = .type "list") : False := by
  have mem : ∀ {l : List (Addr × Obj)}, l.lookup a = some o → (a, o) ∈ l := by
    intro l
    induction l with
    | nil => intro e; cases e
    | cons p l ih =>
      obtain ⟨b, u⟩ := p
      intro e
      rw [List.lookup_cons] at e
      split at e
      · rename_i hb
        cases e
        rw [eq_of_beq hb]
        exact List.mem_cons_self
      · exact List.mem_cons_of_mem _ (ih e)
  have z := List.all_eq_true.mp h _ (mem hk)
  rw [hc] at z
  exact absurd z (by decide)

/-- the script's place, and its number list -/
def scriptHp (a : Addr) (vs : List Value) (ns : List Int) : Hp := fun b => if b = a then some (.frz { cls := .type "list", data := .seq vs.toArray } (.lst (ns.map V.int))) else none
/-- the law, called: what it answers is True -/
theorem law_callG {P : Program} {w : World} {K : PySem.W.Frag} {mg mb : Str → Option Value} {k : Nat} {fa a : Addr} {fd : FuncData} {x : Str} {m : List D → Option Out} {sh : Shared} {vs : List Value} {ns : List Int}
    (inK : K.In sh.heap) (nsG : sh.heap.Ns mainGlobals mg) (nsB : sh.heap.Ns builtinsNs mb) (boots : ∀ y : Str, y ≠ "__name__" → mb y = bootBuiltins y) (noLim : sh.heap.NoLimit) (noGens : sh.gens = #[])
    (scr : sh.heap.get? a = some { cls := .type "list", data := .seq vs.toArray }) (isInts : IntsAre vs ns) (few : ns.length ≤ sizeLine) (room : RoomG k callerA) (nl : noLists K = true)
    (F : ∀ base : Heap, K.In base → base.Ns mainGlobals mg → FnG P w K mg base k fa fd [x] (spV K mg m)) (bind : ∀ (s : Shared) (u : Value), BindsTo s fd ⟨[u], []⟩ [(x, u)])
    (ans : m [.list (ns.map .int)] = some (.ret (.val (.bool true)))) :
    codeAny (model P w) callerA (.call (.ref fa) ⟨[.ref a], []⟩) (fun r s' => r = .ok (.ret (.bool true)) ∧ OldK sh.heap s'.heap ∧ s'.os = sh.os ∧ AllBare s'.gens) sh := by
  have rels := vals_ints isInts
  have hka : K.lookup a = none := by
    cases q : K.lookup a with
    | none => rfl
    | some o =>
      have e := inK a o q
      rw [scr] at e
      cases e
      exact (noLists_none nl q rfl).elim
  have at_a : scriptHp a vs ns a = some (.frz { cls := .type "list", data := .seq vs.toArray } (.lst (ns.map V.int))) := if_pos rfl
  have off_a : ∀ {b : Addr}, b ≠ a → scriptHp a vs ns b = none := fun h => if_neg h
  have inBase : ∀ {b : Addr} {o : Obj}, sh.heap.get? b = some o → b ≠ a → (hidT sh.heap (scriptHp a vs ns)).get? b = some o := fun e h => hidT_get e (off_a h)
  have dictBase : ∀ {b : Addr} {m : Str → Option Value}, sh.heap.Ns b m → (hidT sh.heap (scriptHp a vs ns)).Ns b m := fun {b m} ⟨o, es, ep, e, dd, r⟩ => by
    refine ⟨o, es, ep, inBase e fun z => ?_, dd, r⟩
    subst z
    rw [scr] at e
    cases e
    cases (show Data.seq vs.toArray _ = Data.dict es ep from dd)
  have kBase : K.In (hidT sh.heap (scriptHp a vs ns)) := fun b o e => inBase (inK b o e) fun z => by
    subst z
    rw [hka] at e
    cases e
  have md : Mod K mg (hidT sh.heap (scriptHp a vs ns)) := ⟨kBase, dictBase nsG, ⟨mb, dictBase nsB, boots⟩, let ⟨mc, h1, h2⟩ := noLim; ⟨mc, dictBase h1, h2⟩⟩
  have ok : HOk P w (scriptHp a vs ns) sh.heap := fun b u z => by
    by_cases h : b = a
    · subst h
      rw [at_a] at z
      cases z
      exact ⟨scr, by rw [List.length_map]; exact few, vs, _, rels, scr⟩
    · rw [off_a h] at z
      cases z
  have env : Env0 P w K mg (hidT sh.heap (scriptHp a vs ns)) callerA [] sh (scriptHp a vs ns) := ⟨rfl, md, fun b o e => of_hidT e, Nat.le_of_eq (hidT_size _ _), trivial, fun b hb => (List.not_mem_nil hb).elim, ok, .of_eq noGens⟩
  have args : DpAll K (scriptHp a vs ns) [.ref a] [.list (ns.map .int)] := by
    have go : ∀ ms : List Int, DpAll K (scriptHp a vs ns) (ms.map V.int) (ms.map PyData.int) := fun ms => by
      induction ms with
      | nil => exact .nil
      | cons n ms ih => exact .cons (.int n) ih
    exact .cons (.lst (.inr ⟨_, at_a⟩) (go ns)) .nil
  have prom : spV K mg m [.ref a] (scriptHp a vs ns) (fun v _ => v = .bl true) (fun _ _ _ => False) := by
    refine ⟨scriptHp a vs ns, _, .refl _, args, ?_⟩
    rw [ans]
    intro F' H' v g r
    cases (show Dp K F' v (.bool true) from r)
    rfl
  refine codeAny_mono ((F _ kBase (dictBase nsG)).run callerA [] sh (scriptHp a vs ns) ⟨[.ref a], []⟩ [.ref a] [.ref a] _ _ room env (bind sh (.ref a)) (.cons rfl .nil) prom) fun r s' out => ?_
  cases r with
  | error e =>
    obtain ⟨_, _, _, _, _, _, _, _, _, _, _, _, no⟩ := out
    exact no.elim
  | ok fl =>
    cases fl with
    | next => exact False.elim out
    | brk => exact False.elim out
    | cont => exact False.elim out
    | ret u =>
      obtain ⟨v, H', os, bare, un, ok', ru, q⟩ := out
      cases (show v = V.bl true from q)
      cases (show u = Value.bool true from ru)
      refine ⟨rfl,
                                                                                                                    OldK.of_keep fun b o e => ?_, os, bare⟩
      by_cases h : b = a
      · subst h
        have z2 := un.frzs b _ _ at_a
        obtain ⟨e2, _⟩ := ok' b _ z2
        rw [scr] at e
        cases e
        exact e2
      · exact un.keep b o e (off_a h) (fun z => (List.not_mem_nil z).elim) (by simp)
theorem law_walk {l : PySem.W.OpenLaw} {n k : Nat} {q : Program} {loose : List Str} {XP : (Str → Option Value) → Heap → Prop} {YP : World → Heap → Prop} {d : DefRec} {K : Params → PySem.W.Frag} {x : Str} {m : List D → Option Out}
    (hn : l.most = some n) (hn2 : n ≤ sizeLine) (hdf : d.params.defaults = []) (room : RoomG k callerA)
    (hY : ∀ (w : World) (h : Heap),
                                                                                                                  YP w h → (K w.params).In h)
    (F : ∀ (w : World) (mg : Str → Option Value) (fa : Addr) (h : Heap),
                                                                                                                  (K w.params).In h → h.Ns mainGlobals mg → mg d.name = some (.ref fa) →
      noLists (K w.params) = true ∧ ∃ fd : FuncData, (∀ (s : Shared) (u : Value), BindsTo s fd ⟨[u], []⟩ [(x, u)]) ∧
        ∀ base : Heap, (K w.params).In base → base.Ns mainGlobals mg → FnG l.prog w (K w.params) mg base k fa fd [x] (spV (K w.params) mg m))
    (ans : ∀ ns : List Int, ns.length ≤ n → m [.list (ns.map .int)] = some (.ret (.val (.bool true)))) :
    PySem.W.WalkO q loose XP YP l.row.toRowW d []
                                                                                                                  (fun f vs => PySem.call f vs) := by
  refine Att.attach_call hn hdf fun w s₀ sh mg mb fa o pm cd doc a vs ns G Y ho hd hcd hmg scr isInts few hg => ?_
  have inK := hY w _ Y
  obtain ⟨nl, fd, bind, hF⟩ := F w mg fa _ inK G.T.g hmg
  exact law_callG inK G.T.g G.T.b G.T.builtins G.T.nolimit hg scr isInts (Nat.le_trans few hn2) room nl hF bind (ans ns few)
end Mv

namespace Mv
open L2 PySem.Spec PySem PyProof.Rows

/-! ### what the printed walks lean on -/
theorem bo_len : bootBuiltins "len" = some (.builtin "len") := by decide +kernel
theorem bo_abs : bootBuiltins "abs" = some (.builtin "abs") := by decide +kernel
theorem bo_repr : bootBuiltins "repr" = some (.builtin "repr") := by decide +kernel
theorem bo_all : bootBuiltins "all" = some (.builtin "all") := by decide +kernel
theorem bo_sum : bootBuiltins "sum" = some (.builtin "sum") := by decide +kernel
theorem bo_max : bootBuiltins "max" = some (.builtin "max") := by decide +kernel
theorem bo_min : bootBuiltins "min" = some (.builtin "min") := by decide +kernel
theorem bo_sorted : bootBuiltins "sorted" = some (.builtin "sorted") := by decide +kernel
theorem bo_int : bootBuiltins "int" = some (.type "int") := by decide +kernel
theorem bo_bool : bootBuiltins "bool" = some (.type "bool") := by decide +kernel
theorem bo_str : bootBuiltins "str" = some (.type "str") := by decide +kernel
theorem bo_tuple : bootBuiltins "tuple" = some (.type "tuple") := by decide +kernel
theorem bo_list : bootBuiltins "list" = some (.type "list") := by decide +kernel
theorem bo_dict : bootBuiltins "dict" = some (.type "dict") := by decide +kernel
theorem bo_set : bootBuiltins "set" = some (.type "set") := by decide +kernel
/-- the built-ins that the texts name -/
structure Blt (mg : Str → Option Value) : Prop where
  len : mg "len" = none
  abs : mg "abs" = none
  repr : mg "repr" = none
  all : mg "all" = none
  sum : mg "sum" = none
  max : mg "max" = none
  min : mg "min" = none
  sorted : mg "sorted" = none
  int : mg "int" = none
  bool : mg "bool" = none
  str : mg "str" = none
  tuple : mg "tuple" = none
  list : mg "list" = none
  dict : mg "dict" = none
  set : mg "set" = none
  isinstance : mg "isinstance" = none
  range : mg "range" = none
  enumerate : mg "enumerate" = none
  zip : mg "zip" = none
/-- a constant of the module: a tuple of values -/
structure GC (K : PySem.W.Frag) (mg : Str → Option Value) (x : Str) (d : D) : Prop where
  ex : ∃ (v : V) (u : Value), mg x = some u ∧ RelV v u ∧ ∀ F, Dp K F v d
section
variable {X : Cx} {W : WX} {pos : Pos} {x : Str} {d : D} {a b tg : Expr} {g : M (List D)} {p tpos : Pos} {elts : List Expr} {kk : Nat}
theorem ve_gc (h : GC X.K X.mg x d) (hg : Gl X x := by rfl) (hd : (x == ("__debug__" : Str)) = false := by decide) : VE X W (.Name x pos) (vC d) :=
  let ⟨_, _, hm, r, dv⟩ := h.ex
  ve_glob hg hm r dv hd
theorem tk0 : Takes X W0 := fun u s' ⟨_, _, _, _, _, _, _, _, _, _, _, _, _, _, _, _, h⟩ => h.elim
def rngR : List D → En → R (List D) := fun ds e => match ds with
    | [.int j] => if j.natAbs < 1000000000 then .ok (rngD 0 j.toNat) e else .bad
    | _ => .bad
def vRng1 (g : M (List D)) : M (List D) := fun en => (g en).bind rngR
def vRng2 (g : M (List D)) : M (List D) := fun en => (g en).bind fun ds e => match ds with
    | [.int i, .int j] => if i.natAbs < 1000000000 ∧ j.natAbs < 1000000000 then .ok (rngD i (j - i).toNat) e else .bad
    | _ => .bad
def vEnum (g : M (List D)) : M (List D) := fun en => (g en).bind fun ds e => match ds with
    | [d] => match seqOf d with
      | some es => .ok (enumD es) e
      | none => .bad
    | _ => .bad
def vZip (g : M (List D)) : M (List D) := fun en => (g en).bind fun ds e => match ds with
    | [d, d2] => match seqOf d, seqOf d2 with
      | some es, some es2 => .ok (zipD es es2) e
      | _, _ => .bad
    | _ => .bad
theorem wi_range1 (hg : Gl X "range") (hm : X.mg "range" = none) (ha : VDs X W [a] g) (hs : starEach [a] X.env = [(false, eval a X.env)] := by rfl) : VI X W tg (.Call (.Name "range" p) [a] [] pos) (vRng1 g) := vi_range1 hg hm ha hs
theorem wi_range2 (hg : Gl X "range") (hm : X.mg "range" = none) (ha : VDs X W [a, b] g) (hs : starEach [a, b] X.env = [(false, eval a X.env), (false, eval b X.env)] := by rfl) (hs2 : starEach [b] X.env = [(false, eval b X.env)] := by rfl) : VI X W tg (.Call (.Name "range" p) [a, b] [] pos) (vRng2 g) := vi_range2 hg hm ha hs hs2
theorem wi_enum (hg : Gl X "enumerate") (hm : X.mg "enumerate" = none) (ha : VDs X W [a] g) (hs : starEach [a] X.env = [(false, eval a X.env)] := by rfl) : VI X W (.Tuple elts kk tpos) (.Call (.Name "enumerate" p) [a] [] pos) (vEnum g) := vi_enum hg hm ha hs
theorem wi_zip (hg : Gl X "zip") (hm : X.mg "zip" = none) (ha : VDs X W [a, b] g) (hs : starEach [a, b] X.env = (false, eval a X.env) :: starEach [b] X.env := by rfl) (hpl : (backTo pos (starEach [b] X.env)).any (·.1) = false := by rfl) : VI X W (.Tuple elts kk tpos) (.Call (.Name "zip" p) [a, b] [] pos) (vZip g) := vi_zip hg hm ha hs hpl
/-- what a def's text computes, by fuel -/
def runM (k n : Nat) (g : Nat → MS) (fu : List D → Nat) : List D → Option Out := fun ds => if ds.length = k then outOf (g (fu ds) (startE n ds)) else none
def runB (k n : Nat) (g : Nat → MS) (fu : List D → List D → Nat) : List D → List D → Option (Out × List D) := fun xs ds => if ds.length + 1 = k then outB (g (fu xs ds) (.own true xs :: startE (n - 1) ds)) else none
end
section
variable {P : Program} {w : World} {K : PySem.W.Frag} {mg : Str → Option Value} {base : Heap} {x qual : Str} {st : Stmt} {f : Addr} {fd : FuncData} {N ps : List Str} {k : Nat}
theorem fnv_run {g : Nat → MS} {fu : List D → Nat} (F : Fun K x qual st f fd) (S : FnScope N ps (defScope st)) (hm : mg x = some (.ref f)) (b : Binds K fd ps [])
    (body : ∀ (n : Nat) (cdv : Value) (A : Around) (outer : List Env) (s : Shared) (H : Hp) (E : XK), RoomG k (A.deeper (envOfC qual (defScope st) s.heap.objs.size f cdv)) →
      VSs (bodyX P w K mg base N qual st f cdv A outer s H E) (fun cls d _ H => E cls d H) (defBody st) (g n)) : FnV P w K mg base x (k + 1) (runM ps.length N.length g fu) :=
  fnv_mk F S hm b (fun ds o h => by
    unfold runM at h
    split at h
    · assumption
    · cases h) g body fun ds o h => ⟨fu ds, by
    unfold runM at h
    split at h
    · exact h
    · cases h⟩
theorem fng_run {g : Nat → MS} {fu : List D → Nat} (F : Fun K x qual st f fd) (S : FnScope N ps (defScope st))
    (body : ∀ (n : Nat) (cdv : Value) (A : Around) (outer : List Env) (s : Shared) (H : Hp) (E : XK), RoomG k (A.deeper (envOfC qual (defScope st) s.heap.objs.size f cdv)) →
      VSs (bodyX P w K mg base N qual st f cdv A outer s H E) (fun cls d _ H => E cls d H) (defBody st) (g n)) : FnG P w K mg base (k + 1) f fd ps (spV K mg (runM ps.length N.length g fu)) :=
  fng_mk F S (fun ds o h => by
    unfold runM at h
    split at h
    · assumption
    · cases h) g body fun ds o h => ⟨fu ds, by
    unfold runM at h
    split at h
    · exact h
    · cases h⟩
theorem fnb_run {g : Nat → MS} {fu : List D → List D → Nat} (F : Fun K x qual st f fd) (S : FnScope N ps (defScope st)) (hm : mg x = some (.ref f)) (b : Binds K fd ps [])
    (body : ∀ (n : Nat) (cdv : Value) (A : Around) (outer : List Env) (s : Shared) (H : Hp) (E : XK), RoomG k (A.deeper (envOfC qual (defScope st) s.heap.objs.size f cdv)) →
      VSs (bodyX P w K mg base N qual st f cdv A outer s H E) (fun cls d _ H => E cls d H) (defBody st) (g n)) : FnB P w K mg base x (k + 1) (runB ps.length N.length g fu) :=
  fnb_mk F S hm b (fun xs ds o h => by
    unfold runB at h
    split at h
    · assumption
    · cases h) g body fun xs ds o h => ⟨fu xs ds, by
    unfold runB at h
    split at h
    · exact h
    · cases h⟩
end
/-- a constant's value, where the module's names lie -/
structure GV (K : PySem.W.Frag) (u : Value) (d : D) : Prop where
  ex : ∃ v : V, RelV v u ∧ ∀ F, Dp K F v d
structure GVs (K : PySem.W.Frag) (us : List Value) (ds : List D) : Prop where
  ex : ∃ vs : List V, Vals vs us ∧ ∀ F, DpAll K F vs ds
section
variable {K : PySem.W.Frag}
theorem gv_int (i : Int) (t : Tok) : GV K (.int i t) (.int i) := ⟨.int i, ⟨t, rfl⟩, fun _ => .int i⟩
theorem gv_bl (b : Bool) : GV K (.bool b) (.bool b) := ⟨.bl b, rfl, fun _ => .bl b⟩
theorem gvs_nil : GVs K [] [] := ⟨[], .nil, fun _ => .nil⟩
theorem gvs_cons {u : Value} {us : List Value} {d : D} {ds : List D} (h : GV K u d) (hs : GVs K us ds) : GVs K (u :: us) (d :: ds) :=
  let ⟨v, r, dv⟩ := h.ex
  let ⟨vs, rs, dvs⟩ := hs.ex
  ⟨v :: vs, .cons r rs, fun F => .cons (dv F) (dvs F)⟩
theorem gv_tup {a : Addr} {o : Obj} {us : Array Value} {n : Nat} {ds : List D} (hk : K.lookup a = some o) (hc : o.cls = .type "tuple") (hd : o.data = .seq us n) (hz : us.size ≤ 1000) (hs : GVs K us.toList ds) : GV K (.ref a) (.tuple ds) :=
  let ⟨vs, rs, dvs⟩ := hs.ex
  ⟨.ref a, rfl, fun F => .tup (.inr ⟨o, us, n, hk, hc, hd, Nat.le_trans hz (by decide), rs⟩) (dvs F)⟩
end
/-- a def of the module, where the module's names lie -/
structure At (K : PySem.W.Frag) (x : Str) (st : Stmt) : Prop where
  ex : ∃ (f : Addr) (fd : FuncData), PySem.W.nsIn K mainGlobals x = some (some (.ref f)) ∧ Fun K x x st f fd ∧ (fd.defaults = .none)
theorem at_mk {K : PySem.W.Frag} {x : Str} {st : Stmt} {f : Addr} {oc : Value} {od an : Option Addr} {osl : Array (Option Value)} {kV doc pm cdv ct : Value} (a : PySem.W.nsIn K mainGlobals x = some (some (.ref f)))
    (l : K.lookup f = some ⟨oc, od, .func (PySem.W.fnOf x x (defArgs st) (defBody st) (defScope st) .none kV doc pm an cdv ct), osl⟩) (c : PySem.W.codeIn K cdv x = true) (k : PySem.W.keepIn K (.ref f) = true) : At K x st := ⟨f, _, a, fun_mk l c k, rfl⟩
/-- the built-ins' names are free -/
theorem bt_mk {K : PySem.W.Frag} {h : Heap} {mg : Str → Option Value} (X : K.In h) (G : h.Ns mainGlobals mg) (z : ∀ y ∈ (["len", "abs", "repr", "all", "sum", "max", "min", "sorted", "int", "bool", "str", "tuple", "list", "dict", "set", "isinstance", "range", "enumerate", "zip"] : List Str), PySem.W.nsIn K mainGlobals y = some none) : Blt mg :=
  have go : ∀ y ∈ (["len", "abs", "repr", "all", "sum", "max", "min", "sorted", "int", "bool", "str", "tuple", "list", "dict", "set", "isinstance", "range", "enumerate", "zip"] : List Str), mg y = none := fun y hy => PySem.W.mg_none_of X G (z y hy)
  ⟨go _ (by simp), go _ (by simp), go _ (by simp), go _ (by simp), go _ (by simp), go _ (by simp), go _ (by simp), go _ (by simp), go _ (by simp), go _ (by simp), go _ (by simp), go _ (by simp), go _ (by simp), go _ (by simp), go _ (by simp), go _ (by simp), go _ (by simp), go _ (by simp), go _ (by simp)⟩
structure GU (K : PySem.W.Frag) (x : Str) (d : D) : Prop where
  ex : ∃ u : Value, PySem.W.nsIn K mainGlobals x = some (some u) ∧ GV K u d
theorem gu_mk {K : PySem.W.Frag} {x : Str} {d : D} {u : Value} (a : PySem.W.nsIn K mainGlobals x = some (some u)) (v : GV K u d) : GU K x d := ⟨u, a, v⟩
theorem GU.gc {K : PySem.W.Frag} {x : Str} {d : D} {h : Heap} {mg : Str → Option Value} (U : GU K x d) (X : K.In h) (G : h.Ns mainGlobals mg) : GC K mg x d :=
  let ⟨_, a, ⟨⟨v, r, dv⟩⟩⟩ := U.ex
  ⟨v, _, PySem.W.mg_of X G a, r, dv⟩
end Mv

namespace Mv
open L2 PySem.Spec PySem PyProof.Rows

/-! ### truth -/
def tru : D → Option Bool
  | .none => some false
  | .bool b => some b
  | .int i => some (i != 0)
  | .str z => if z.length ≤ LIM then some (decide (0 < z.length)) else none
  | .list xs => some (!xs.isEmpty)
  | .tuple xs => some (!xs.isEmpty)
  | _ => none
@[simp] theorem tru_none : tru .none = some false := rfl
@[simp] theorem tru_bool (b : Bool) : tru (.bool b) = some b := rfl
@[simp] theorem tru_int (i : Int) : tru (.int i) = some (i != 0) := rfl
@[simp] theorem tru_list (xs : List D) : tru (.list xs) = some (!xs.isEmpty) := rfl
@[simp] theorem tru_tuple (xs : List D) : tru (.tuple xs) = some (!xs.isEmpty) := rfl
theorem empty_of {K : PySem.W.Frag} {F : Hp} {us : List V} {xs : List D} (r : DpAll K F us xs) : (!us.isEmpty) = !xs.isEmpty := by
  cases r <;> rfl
theorem tru_is {K : PySem.W.Frag} {F H : Hp} {v : V} {d : D} {k : Bool} (s : Same F H) (r : Dp K F v d) (h : tru d = some k) : TruV K v H k := by
  cases r with
  | non => cases h; exact rfl
  | bl b => cases h; exact rfl
  | int i => cases h; exact rfl
  | str z =>
    have h : (if z.length ≤ LIM then some (decide (0 < z.length)) else none) = some k := h
    by_cases hl : z.length ≤ LIM
    · rw [if_pos hl] at h
      cases h
      refine ⟨lim_line hl, ?_⟩
      by_cases hz : z.length = 0
      · rw [hz]; rfl
      · rw [decide_eq_true (by omega)]
        exact (bne_iff_ne.mpr (by omega)).symm
    · rw [if_neg hl] at h
      cases h
  | lst h1 h2 =>
    cases h
    exact .inl ⟨_, .inl (rd_mono s h1), (empty_of h2).symm⟩
  | tup h1 h2 =>
    cases h
    exact .inr (.inl ⟨_, sqT_mono s h1, (empty_of h2).symm⟩)
  | dic _ _ => cases h
  | dit _ _ => cases h
def truE (d : D) (e : En) : R Bool := match tru d with
  | some b => .ok b e
  | none => .bad
def vTr (f : M Sl) : M Bool := fun en => (vD f en).bind truE
def vOrT (f g : M Sl) : M Sl := fun en => (vD f en).bind fun d e => (truE d e).bind fun b e2 => if b = true then .ok (.val d) e2 else g e2
def vAndT (f g : M Sl) : M Sl := fun en => (vD f en).bind fun d e => (truE d e).bind fun b e2 => if b = true then g e2 else .ok (.val d) e2
section
variable {X : Cx} {W : WX} {a b e : Expr} {rest : List Expr} {pos : Pos} {fa fb f : M Sl}
theorem vb_tr (h : VE X W e f) (he : ∀ whole, isTrue e X.env whole = (do let v ← whole; standAt e.pos; holding [v] (truthy v)) := by intro _; rfl) : VB X W e (vTr f) := fun B =>
  ptWk (pt_truth (h.d B) he) fun σ H Q ⟨F, en, S, p⟩ => by
    refine ⟨F, en, S, (Post.bind p).imp fun d en1 F1 H1 S1 s1 q v rv => ?_⟩
    unfold truE at q
    cases ht : tru d with
    | none => rw [ht] at q; exact q.elim
    | some k =>
      rw [ht] at q
      exact ⟨k, tru_is S1.sub rv ht, q F1 H1 S1 (.refl _)⟩
theorem ve_orT (h : VE X W a fa) (h2 : VE X W (.BoolOp .Or (b :: rest) pos) fb) : VE X W (.BoolOp .Or (a :: b :: rest) pos) (vOrT fa fb) := fun B =>
  peWk (pe_orT (h.d B) (h2 B)) fun σ H Q ⟨F, en, S, p⟩ => by
    refine ⟨F, en, S, (Post.bind p).imp fun d en1 F1 H1 S1 s1 q v rv => ?_⟩
    unfold truE at q
    cases ht : tru d with
    | none => rw [ht] at q; exact q.elim
    | some k =>
      rw [ht] at q
      refine ⟨k, tru_is S1.sub rv ht, ?_⟩
      cases k with
      | true => rw [if_pos rfl]; exact q F1 H1 S1 (.refl _) v rv
      | false => rw [if_neg (fun z => Bool.false_ne_true z)]; exact ⟨F1, en1, S1, q⟩
theorem ve_andT (h : VE X W a fa) (h2 : VE X W (.BoolOp .And (b :: rest) pos) fb) : VE X W (.BoolOp .And (a :: b :: rest) pos) (vAndT fa fb) := fun B =>
  peWk (pe_andT (h.d B) (h2 B)) fun σ H Q ⟨F, en, S, p⟩ => by
    refine ⟨F, en, S, (Post.bind p).imp fun d en1 F1 H1 S1 s1 q v rv => ?_⟩
    unfold truE at q
    cases ht : tru d with
    | none => rw [ht] at q; exact q.elim
    | some k =>
      rw [ht] at q
      refine ⟨k, tru_is S1.sub rv ht, ?_⟩
      cases k with
      | true => rw [if_pos rfl]; exact ⟨F1, en1, S1, q⟩
      | false => rw [if_neg (fun z => Bool.false_ne_true z)]; exact q F1 H1 S1 (.refl _) v rv
end

/-! ### list(range(n)) -/
section
variable {X : Cx} {W : WX} {a : Expr} {p p2 pos pos2 : Pos} {f : M Sl}
theorem dps_rg {K : PySem.W.Frag} {F : Hp} (n : Int) : DpAll K F (rgV 0 n) (rngD 0 n.toNat) := by
  unfold rgV rngD
  rw [Int.sub_zero]
  induction List.range n.toNat with
  | nil => exact .nil
  | cons k ks ih => exact .cons (.int _) ih
def vListR (f : M Sl) : M Sl := fun en => (vD f en).bind fun d e => match d with
  | .int n => if n.natAbs ≤ LIM then .ok (.own false (rngD 0 n.toNat)) e else .bad
  | _ => .bad
theorem ve_listR (hc : X.calm = true) (hg : Gl X "list") (hm : X.mg "list" = none) (hg2 : Gl X "range") (hm2 : X.mg "range" = none) (ha : VE X W a f) (na : starEach [a] X.env = (false, eval a X.env) :: starEach [] X.env := by rfl)
    (nb : starEach [.Call (.Name "range" p2) [a] [] pos2] X.env = (false, eval (.Call (.Name "range" p2) [a] [] pos2) X.env) :: starEach [] X.env := by rfl) : VE X W (.Call (.Name "list" p) [.Call (.Name "range" p2) [a] [] pos2] [] pos) (vListR f) := fun B =>
  peWk (pe_listRg hc hg hm (prg_1 hg2 hm2 (ha.d B) na) nb) fun σ H Q ⟨F, en, S, q⟩ => by
    refine ⟨F, en, S, (Post.bind q).imp fun d en1 F1 H1 S1 s1 q1 v rv => ?_⟩
    cases d with
    | int n =>
      cases rv
      dsimp only at q1
      by_cases hl : n.natAbs ≤ LIM
      · rw [if_pos hl] at q1
        have hl' : n.natAbs ≤ 1000000 := hl
        refine ⟨n, rfl, ⟨by decide, by decide, by omega, by omega, by omega⟩, fun c hc => ?_⟩
        have gr : Gr F1 H1 F1 (upd H1 c (.lst (rgV 0 n))) := Gr.made S1.sub hc
        exact q1 F1 _ (S1.gr gr) (.refl _) _ (S1.res (r := .own false _) ⟨rfl, c, _, rfl, upd_same, S1.sub.free hc, dps_rg n, hc⟩)
      · rw [if_neg hl] at q1
        exact q1.elim
    | _ => exact q1.elim

/-! ### x.extend(e) -/
def rExtR : V → List V → Hp → VK → Prop := fun x vs H Q => ∃ l b xs zs, x = .ref l ∧ vs = [.ref b] ∧ H l = some (.lst xs) ∧ Rd H b (.lst zs) ∧ xs.length + zs.length ≤ sizeLine ∧ Q .non (upd H l (.lst (xs ++ zs)))
theorem mt_extR : MtM X "list.extend" rExtR := by
  intro pins s σ H x vs
  intro v us Q I rx rv h
  obtain ⟨l, b, xs, zs, rfl, rfl, hH, hB, hsize, q⟩ := h
  cases rx
  obtain ⟨u, rfl, ru⟩ := rv.one
  cases ru
  obtain ⟨z, its, n,
                                                                                                                r, hl, e⟩ := I.lstM hH
  obtain ⟨z2, its2, n2, r2, e2⟩ := Inv.rdL I hB
  have hl2 := r2.length
  have both : its.toArray.size + its2.toArray.size ≤ sizeLine := by simp only [List.size_toArray]; omega
  have short : ¬ (!its.toArray.isEmpty && Builtin.List.listTooLong (its.toArray.size + its2.toArray.size)) = true := by rw [notLongL both, Bool.and_false]; exact fun z => Bool.false_ne_true z
  refine call_meets F.slot_list_extend ⟨_, e, rfl⟩ F.entry_list_extend (F.args_list_extend_2 _ _) (AutoSeq1.list_extend_list_list_0 l its.toArray n b its2.toArray n2 short (by simp only [List.size_toArray]; omega) (by omega)) ⟨e, e2, ?_⟩
  exact ⟨.non, _, I.lset (its' := its ++ its2) hH e (by simp) (r.append r2) (by rw [List.length_append]; omega), rfl, q⟩
def sExt (i : Nat) (f : M Sl) : MS := fun en => ownAt i en fun _ _ => (vD f en).bind fun d e => ownAt i e fun b xs => match d with
  | .list ys => if xs.length + ys.length ≤ LIM then .ok .nx (e.set i (.own b (xs ++ ys))) else .bad
  | _ => .bad
theorem vs_ext {i : Nat} {e : Expr} {x : Str} {apos cpos : Pos} (he : VE X W e f) (hN : X.N[i]? = some x := by rfl) (hv : Vis X.env.scope x := by first | exact Or.inl rfl | exact Or.inr (Or.inl rfl)) (hd : (x == ("__debug__" : Str)) = false := by decide)
    (hcd : (x == ("__classdict__" : Str)) = false := by decide) (hbase : attributeBase (.Name x p) "extend" X.env (eval (.Name x p) X.env) = eval (.Name x p) X.env := by rfl)
    (hfew : ((backTo cpos (starEach [e] X.env)).all (fun x => !x.1) && (backToKw cpos (keywordEach [] X.env)).all (fun x => x.1.isSome) && decide ([e].length + ([] : List Keyword).length + (if ([] : List Keyword).isEmpty then 0 else 1) < 30)) = true := by rfl)
    (hline : (apos.endLine == cpos.line) = true := by rfl) (hst : starEach [e] X.env = (false, eval e X.env) :: starEach [] X.env := by rfl) (hsw : swapsWith (.Call (.Attribute (.Name x p) "extend" apos) [e] [] cpos) none pos.line X.env = pure false := by rfl) :
    VS X W (.Expr (.Call (.Attribute (.Name x p) "extend" apos) [e] [] cpos) pos) (sExt i f) := fun B =>
  psWk (ps_expr (pe_bm PySem.F.plainAttrs_list PySem.F.slot_list_extend PySem.F.type_list_extend mt_extR (pe_var hN hv hd hcd) (pa_cons (he.d B) pa_nil hst) hbase hfew hline hst) hsw) fun Dn σ H ⟨F, en, S, q⟩ => by
    unfold sExt ownAt at q
    split at q
    · rename_i b0 xs0 h0
      obtain ⟨a0, vs0, e0, l0, _, _⟩ := S.slotL h0
      refine ⟨_, e0, .inl ⟨rfl, vs0, .inl (.inl l0)⟩, F, en, S, (PostS.bind q).imp fun d en1 F1 H1 S1 s1 q1 v rv => ?_⟩
      split at q1
      · rename_i b xs h1
        obtain ⟨a1, vs, e1, l1, r1, len⟩ := S1.slotL h1
        rw [e0] at e1
        cases e1
        dsimp only at q1
        split at q1
        · rename_i ys
          split at q1
          · rename_i hl
            obtain ⟨b1, us, rfl, h2, r2⟩ := lst_of rv
            refine ⟨_, b1, vs, us, rfl, rfl, l1, rd_mono S1.sub h2, by rw [len, dps_len r2]; exact lim_line hl, ?_⟩
            exact q1 σ F1 _ (S1.change h1 e0 l1 (dps_app r1 r2)) (.refl _)
          · exact q1.elim
        · exact q1.elim
      · exact q1.elim
    · exact q.elim
end
end Mv

namespace Mv
open L2 PySem.Spec PySem PyProof.Rows

/-! ### own lists lent to a def that gives a number, text, truth or None -/
inductive Ag where
  | d (x : D)
  | slot (i : Nat)
def agOf (e : En) : Ag → Option D
  | .d x => some x
  | .slot i => match e[i]? with
    | some (.val x) => some x
    | some (.own _ xs) => some (.list xs)
    | _ => none
def agsOf (e : En) : List Ag → Option (List D)
  | [] => some []
  | a :: as => (agOf e a).bind fun x => (agsOf e as).map (x :: ·)
inductive AgR (K : PySem.W.Frag) (σ : L2.St) (F : Hp) : V → Ag → Prop
  | d {v : V} {x : D} : Dp K F v x → AgR K σ F v (.d x)
  | slot {v : V} {i : Nat} : σ[i]? = some (some v) → AgR K σ F v (.slot i)
inductive AgsR (K : PySem.W.Frag) (σ : L2.St) (F : Hp) : List V → List Ag → Prop
  | nil : AgsR K σ F [] []
  | cons {v : V} {vs : List V} {a : Ag} {as : List Ag} : AgR K σ F v a → AgsR K σ F vs as → AgsR K σ F (v :: vs) (a :: as)
section
variable {K : PySem.W.Frag} {mg : Str → Option Value} {B : Bs} {W : WX} {σ : L2.St} {en : En} {F F' H : Hp}
theorem AgR.mono {v : V} {a : Ag} (s : Same F F') (h : AgR K σ F v a) : AgR K σ F' v a := by
  cases h with
  | d h => exact .d (dp_mono s h)
  | slot h => exact .slot h
open Classical in
/-- all own lists frozen at once, for a callee alone -/
theorem Sim.lend (S : Sim K B σ en F H) : ∃ G, Same F G ∧ Same G H ∧ ∀ (i : Nat) (b : Bool) (xs : List D), en[i]? = some (.own b xs) → ∃ v, σ[i]? = some (some v) ∧ Dp K G v (.list xs) := by
  let G : Hp := fun a => match F a with
    | some o => some o
    | none => if ∃ i, isOwn en i ∧ σ[i]? = some (some (.ref a)) then H a else none
  have s1 : Same F G := fun a o e => by
    show (match F a with | some o => some o | none => _) = some o
    rw [e]
  have s2 : Same G H := fun a o e => by
    have e' : (match F a with | some o => some o | none => if ∃ i, isOwn en i ∧ σ[i]? = some (some (.ref a)) then H a else none) = some o := e
    cases hf : F a with
    | some u =>
      rw [hf] at e'
      cases e'
      exact S.sub _ _ hf
    | none =>
      rw [hf] at e'
      dsimp only at e'
      split at e'
      · exact e'
      · cases e'
  refine ⟨G, s1, s2, fun i b xs h => ?_⟩
  obtain ⟨a, vs, h1, h2, h3, h4, _⟩ := S.own i b xs h
  refine ⟨.ref a, h1, .lst (.inl ?_) (dps_mono s1 h4)⟩
  show (match F a with | some o => some o | none => if ∃ i, isOwn en i ∧ σ[i]? = some (some (.ref a)) then H a else none) = some (.lst vs)
  rw [h3]
  dsimp only
  rw [if_pos ⟨i, isOwn_out h, h1⟩]
  exact h2
theorem Sim.args (S : Sim K B σ en F H) {G : Hp} (s : Same F G) (hG : ∀ (i : Nat) (b : Bool) (xs : List D), en[i]? = some (.own b xs) → ∃ v, σ[i]? = some (some v) ∧ Dp K G v (.list xs)) : ∀ {as : List Ag} {vs : List V} {ds : List D}, AgsR K σ F vs as → agsOf en as = some ds → DpAll K G vs ds
  | [], _, ds, .nil, h => by cases h; exact .nil
  | a :: as, _, ds, .cons r rs, h => by
    obtain ⟨x, h1, h2⟩ := Option.bind_eq_some_iff.mp h
    obtain ⟨xs, h3, rfl⟩ := Option.map_eq_some_iff.mp h2
    refine .cons ?_ (Sim.args S s hG rs h3)
    cases r with
    | d r => cases h1; exact dp_mono s r
    | slot r =>
      rename_i i
      unfold agOf at h1
      dsimp only at h1
      split at h1
      · rename_i y hy
        cases h1
        obtain ⟨v, e1, e2⟩ := S.val i _ hy
        rw [r] at e1
        cases e1
        exact dp_mono s e2
      · rename_i b ys hy
        cases h1
        obtain ⟨v, e1, e2⟩ := hG i b ys hy
        rw [r] at e1
        cases e1
        exact e2
      · cases h1
end
def tAgs (K : PySem.W.Frag) (mg : Str → Option Value) (B : Bs) (W : WX) (g : M (List Ag)) : TA := fun σ H Q => ∃ F en, Sim K B σ en F H ∧ Post K mg B W σ F (fun as _ F' H' => ∀ vs, AgsR K σ F' vs as → Q vs H') (g en)
def VAs (X : Cx) (W : WX) (es : List Expr) (g : M (List Ag)) : Prop := ∀ B, PA X es (tAgs X.K X.mg B W g)
def aNil : M (List Ag) := fun en => .ok [] en
def aCons (f : M Sl) (g : M (List Ag)) : M (List Ag) := fun en => (vD f en).bind fun d e => (g e).bind fun as e2 => .ok (.d d :: as) e2
def aLend (i : Nat) (g : M (List Ag)) : M (List Ag) := fun en => match en[i]? with
  | some .no => .bad
  | none => .bad
  | _ => (g en).bind fun as e2 => .ok (.slot i :: as) e2
/-- what may come back -/
def scal0 : D → Bool
  | .none | .bool _ |
                                                                                                                .int _ | .str _ => true
  | _ => false
def lendR (o : Option Out) (e : En) : R Sl := match o with
  | some (.ret (.val d)) => if scal0 d = true then .ok (.val d) e else .bad
  | _ => .bad
def vCallL (m : List D → Option Out) (g : M (List Ag)) : M Sl := fun en => (g en).bind fun as e => match agsOf e as with
  | some ds => lendR (m ds) e
  | none => .bad
section
variable {X : Cx} {W : WX} {e : Expr} {es : List Expr} {x y : Str} {p py pos : Pos} {g : M (List Ag)} {k : Nat} {m : List D → Option Out} {f : M Sl}
theorem vas_nil : VAs X W [] aNil := fun B => paWk pa_nil fun σ H Q ⟨F, en, S, p⟩ => p F H S (.refl _) [] .nil
theorem agsR_mono {K : PySem.W.Frag} {σ : L2.St} {F F' : Hp} (s : Same F F') : ∀ {vs : List V} {as : List Ag}, AgsR K σ F vs as → AgsR K σ F' vs as
  | _, _, .nil => .nil
  | _, _, .cons a b => .cons (a.mono s) (agsR_mono s b)
theorem vas_cons (h : VE X W e f) (hr : VAs X W es g) (hs : starEach (e :: es) X.env = (false, eval e X.env) :: starEach es X.env := by rfl) : VAs X W (e :: es) (aCons f g) := fun B =>
  paWk (pa_cons (h.d B) (hr B) hs) fun σ H Q ⟨F, en, S, p⟩ => by
    refine ⟨F, en, S, (Post.bind p).imp fun d en1 F1 H1 S1 s1 q v rv => ?_⟩
    refine ⟨F1, en1, S1, (Post.bind q).imp fun as en2 F2 H2 S2 s2 q2 vs rvs => ?_⟩
    exact q2 F2 H2 S2 (.refl _) _ (.cons (.d (dp_mono s2 rv)) rvs)
theorem vas_lend (i : Nat) (hr : VAs X W es g) (hN : X.N[i]? = some x := by rfl) (hv : Vis X.env.scope x := by first | exact Or.inl rfl | exact Or.inr (Or.inl rfl) | exact Or.inr (Or.inr rfl)) (hd : (x == ("__debug__" : Str)) = false := by decide)
    (hcd : (x == ("__classdict__" : Str)) = false := by decide) (hs : starEach (.Name x p :: es) X.env = (false, eval (.Name x p) X.env) :: starEach es X.env := by rfl) : VAs X W (.Name x p :: es) (aLend i g) := fun B =>
  paWk (pa_cons (pe_var hN hv hd hcd) (hr B) hs) fun σ H Q ⟨F, en, S, q⟩ => by
    have go : ∀ v, σ[i]? = some (some v) → Post X.K X.mg B W σ F (fun as _ F' H' => ∀ vs, AgsR X.K σ F' vs as → Q vs H') ((g en).bind fun as e2 => .ok (.slot i :: as) e2) → ∃ v, σ[i]? = some (some v) ∧ tAgs X.K X.mg B W g σ H fun vs H2 => Q (v :: vs) H2 := fun v hv q =>
      ⟨v, hv, F, en, S, (Post.bind q).imp fun as en2 F2 H2 S2 s2 q2 vs rvs => q2 F2 H2 S2 (.refl _) _ (.cons (.slot hv) rvs)⟩
    unfold aLend at q
    cases hh : en[i]? with
    | none => rw [hh] at q; exact q.elim
    | some s =>
      rw [hh] at q
      cases s with
      | no => exact q.elim
      | val d =>
        obtain ⟨v, h1, _⟩ := S.val i d hh
        exact go v h1 q
      | own b xs =>
        obtain ⟨a, vs, h1, _⟩ := S.own i b xs hh
        exact go _ h1 q
theorem ve_callL (C : FnV X.prog X.w X.K X.mg X.base x k m) (hr : RoomG k X.A) (tk : Takes X W) (ha : VAs X W (e :: es) g)
    (hg : Gl X x := by rfl) (hdb : (x == ("__debug__" : Str)) = false := by decide) (he : starEach (e :: es) X.env = (false, eval e X.env) :: starEach es X.env := by rfl) (hpl : (backTo pos (starEach es X.env)).any (·.1) = false := by rfl) :
    VE X W (.Call (.Name x p) (e :: es) [] pos) (vCallL m g) := fun B => by
  obtain ⟨fa, fd, ps, FO, hm, hk, hb⟩ := C.ex
  refine peWk (pe_callG (E := WE W) FO hr hg hm hk hb (fun σ => passAt tk σ) (ha B) hdb he hpl) fun σ H Q ⟨F, en, S, q⟩ => ?_
  refine ⟨F, en, S, (Post.bind q).imp fun as en1 F1 H1 S1 s1 q1 vs rv => ?_⟩
  cases hd : agsOf en1 as with
  | none => rw [hd] at q1; exact q1.elim
  | some ds =>
    rw [hd] at q1
    dsimp only at q1
    obtain ⟨G, g1, g2, g3⟩ := S1.lend
    have dv := S1.args g1 g3 rv hd
    refine ⟨G, ds, g2, dv, ?_⟩
    cases hmm : m ds with
    | none => rw [hmm] at q1; exact q1.elim
    | some o =>
      rw [hmm] at q1
      cases o with
      | exc c fs => exact q1.elim
      | ret r =>
        cases r with
        | no => exact q1.elim
        | own b xs => exact q1.elim
        | val d =>
          unfold lendR at q1
          dsimp only at q1
          intro F' H' v gr hv
          by_cases hs : scal0 d = true
          · rw [if_pos hs] at q1
            have gr2 : Gr F1 H1 F1 H' := ⟨.refl _, S1.sub.trans gr.hh, gr.hh, fun _ _ z => .inl z⟩
            have hv : Dp X.K F' v d := hv
            refine q1 F1 H' (S1.gr gr2) (.refl _) v ?_
            cases hv with
            | non => exact Dp.non
            | bl b => exact Dp.bl b
            | int i => exact Dp.int i
            | str z => exact Dp.str z
            | lst _ _ => cases hs
            | tup _ _ => cases hs
            | dic _ _ => cases hs
            | dit _ _ => cases hs
          · rw [if_neg hs] at q1
            exact q1.elim
end
end Mv

namespace Mv
open L2 PySem.Spec PySem PyProof.Rows

/-! ### a slice of a name: its own list stays own -/
def vSlv (i : Nat) (l h : M (Option Int)) : M Sl := fun en => match en[i]? with
  | some (.val d) => (l en).bind fun lo e2 => (h e2).bind fun hi e3 => opt (dSl d lo hi) e3
  | some (.own _ _) => (l en).bind fun lo e2 => (h e2).bind fun hi e3 => ownE i e3 fun _ xs => opt (some (.own false (cutD xs lo hi))) e3
  | _ => .bad
section
variable {X : Cx}
theorem ve_slv {W : WX} {i : Nat} {x : Str} {p p2 pos : Pos} {lo hi : Option Expr} {l h : M (Option Int)} (hl : VO X W lo l) (hh : VO X W hi h) (hN : X.N[i]? = some x := by rfl) (hv : Vis X.env.scope x := by first | exact Or.inl rfl | exact Or.inr (Or.inl rfl) | exact Or.inr (Or.inr rfl)) (hd : (x == ("__debug__" : Str)) = false := by decide)
    (hcd : (x == ("__classdict__" : Str)) = false := by decide) : VE X W (.Subscript (.Name x p) (.Slice lo hi none p2) pos) (vSlv i l h) := fun B =>
  peWk (pe_slice (sl_list.or (sl_tupA.or sl_str)) (pe_var hN hv hd hcd) (hl B) (hh B)) fun σ H Q ⟨F, en, S, q⟩ => by
    unfold vSlv at q
    split at q
    · rename_i d hi0
      obtain ⟨v, h1, h2⟩ := S.val i d hi0
      refine ⟨v, h1, F, en, S, (Post.bind q).imp fun a en2 F2 H2 S2 s2 q2 => ?_⟩
      refine ⟨F2, en2, S2, (Post.bind q2).imp fun b en3 F3 H3 S3 s3 q3 => ?_⟩
      exact rd_sl S3.sub (dp_mono (s2.trans s3) h2) (Post.opt S3 q3)
    · rename_i b0 xs0 hi0
      obtain ⟨a0, vs0, e0, _⟩ := S.slotL hi0
      refine ⟨_, e0, F, en, S, (Post.bind q).imp fun a en2 F2 H2 S2 s2 q2 => ?_⟩
      refine ⟨F2, en2, S2, (Post.bind q2).imp fun b en3 F3 H3 S3 s3 q3 => ?_⟩
      unfold ownE at q3
      split at q3
      · rename_i b1 xs h1
        obtain ⟨a1, vs, e1, l1, r1, _⟩ := S3.slotL h1
        rw [e0] at e1
        cases e1
        exact .inl ⟨a0, vs, rfl, .inl (.inl l1), (Post.opt S3 q3).lst S3.sub (dps_cut r1 _ _)⟩
      · exact q3.elim
    · exact q.elim
end
end Mv

namespace Mv
open L2 PySem.Spec PySem PyProof.Rows

/-! ### dicts that are only told of: {} and {key: a constant} -/
def vDic0 : M Sl := fun en => .ok (.val (.dict [])) en
def vDic1 (k : Key) (d : D) : M Sl := fun en => .ok (.val (.dict [(keyD k, d)])) en
section
variable {X : Cx} {W : WX}
theorem Gr.laidD {F H : Hp} {p : Addr} {o : HO} (s : Same F H) (h : H p = none) : Gr F H (upd F p o) (upd H p o) := Gr.laid s h
theorem ve_dic0 {pos : Pos} : VE X W (.Dict [] [] pos) vDic0 := fun B => peWk pe_dnewK fun σ H Q ⟨F, en, S, q⟩ a ha => by
  have g := Gr.laid (o := HO.dK []) S.sub ha
  exact q _ _ (S.gr g) g.ff (.ref a) (.dic (.inl upd_same) .nil)
theorem ve_dic1 {pos : Pos} {ke ve : Expr} {k : Key} {v : V} {d : D} (hk : PE X ke (tC (kV k))) (hv : PE X ve (tC v)) (dv : ∀ F, Dp X.K F v d) : VE X W (.Dict [some ke] [ve] pos) (vDic1 k d) := fun B =>
  peWk (pe_disp (pps_cons hk hv pps_nil) rfl rfl (fun h => by cases h) (by show 1 ≤ 15; decide)) fun σ H Q ⟨F, en, S, q⟩ a ha => by
    refine ⟨upd_same, [(k, v)], rfl, by show 1 ≤ 15; decide, ?_⟩
    have e : mergeK [] [(k, v)] = [(k, v)] := rfl
    rw [e, upd_upd]
    have g := Gr.laid (o := HO.dK [(k, v)]) S.sub ha
    exact q _ _ (S.gr g) g.ff (.ref a) (.dic (.inl upd_same) (.cons (dv _) .nil))
end
end Mv

/-! ### t[::-1], xs[::-1] -/
namespace HT
open PySem PySem.W
                                                                                                              PySem.Calls PyProof.Rows PyProof.V PySem.Spec
section
variable {prog : Program} {w : World} {A :
                                                                                                              Around} {E : Value → Shared → Prop} {s : Shared}
theorem sliceApplied_rev {sl : Addr} {vl vu vs : Value} {n : Nat} {Q : Int × Int × Nat → Shared → Prop} (hs : s.heap.IsSliceOf sl vl vu vs) (pl : IsPart vl none) (pu : IsPart vu none) (ps : IsPart vs (some (-1)))
    (h : Q ((n : Int) - 1, -1, n) s) : wpAny (model prog w) A (Builtin.Slice.sliceApplied (.ref sl) (pure (n : Int))) Q E s := by
  obtain ⟨os, hos,
                                                                                                                hcs, hds⟩ := id hs
  unfold Builtin.Slice.sliceApplied
                                                                                                                Builtin.Slice.sliceFields
  refine wpAny_bind (wpAny_bind (wpAny_field hos hds (x := vl) rfl (wpAny_bind (wpAny_field hos hds (x := vu) rfl (wpAny_bind (wpAny_field hos hds (x := vs) rfl (wpAny_pure ?_)))))))
  refine wpAny_bind (slicePart_ ps ?_)
  show wpAny _ _ (if ((-1 : Int) == 0) = true then _ else _) _ _ s
  rw [if_neg (by decide)]
  refine wpAny_bind (slicePart_ pl (wpAny_bind
                                                                                                                (slicePart_ pu (wpAny_bind (wpAny_pure ?_)))))
  show wpAny _ _ (match Builtin.Slice.sliceAdjust none none (-1) (n : Int) with | (lo, hi) => pure (lo, (-1 : Int), Builtin.Slice.slicePlaces lo hi (-1))) _ _ s
  have e1 : Builtin.Slice.sliceAdjust none none (-1) (n : Int) = ((n : Int) - 1, -1) := by
    unfold
                                                                                                                  Builtin.Slice.sliceAdjust
    simp
  rw [e1]
  have e2 : Builtin.Slice.slicePlaces ((n : Int) - 1) (-1) (-1) = n := by
    unfold
                                                                                                                  Builtin.Slice.slicePlaces
    have h1 : ¬ (-1 : Int) > 0 := by omega
    simp only [h1, if_false]
    have e3 : -(-1 : Int) = 1 := rfl
    simp only [e3, Int.ediv_one]
    split <;> omega
  show wpAny _ _ (pure ((n : Int) - 1, (-1 : Int), Builtin.Slice.slicePlaces ((n : Int) - 1) (-1) (-1))) _ _ s
  rw [e2]
  exact wpAny_pure h
theorem pick_rev (xs : Array Value) : ((List.range xs.size).filterMap fun (m : Nat) => xs[(((xs.size : Int) - 1) + (m : Int) * (-1)).toNat]?).toArray = xs.toList.reverse.toArray := by
  have h : ((List.range xs.size).map fun k => xs.size - 1 - k).filterMap (xs[·]?) = xs.toList.reverse := by
    rw [krv_range, List.filterMap_reverse, krv_all]
  rw [List.filterMap_map] at h
  rw [← h]
  have key : ∀ l : List Nat, (∀ k ∈ l, k < xs.size) → l.filterMap (fun (m : Nat) => xs[(((xs.size : Int) - 1) + (m : Int) * (-1)).toNat]?) = l.filterMap ((fun x => xs[x]?) ∘ fun k => xs.size - 1 - k) := by
    intro l
    induction l with
    | nil => exact fun _ => rfl
    | cons k l ih =>
      intro hl
      have h1 := hl k List.mem_cons_self
      have : (((xs.size : Int) - 1) + (k : Int) * (-1)).toNat = xs.size - 1 - k := by omega
      simp only [List.filterMap_cons, Function.comp, this]
      rw [ih fun z hz => hl z (List.mem_cons_of_mem _ hz)]
  rw [key _ fun k hk => List.mem_range.mp hk]
theorem getItem_tuple_rev {t sl : Addr} {items : Array Value} {vl vu vs : Value} {Q : Value → Shared → Prop} (ht : IsTup s.heap t items) (hs : s.heap.IsSliceOf sl vl vu vs) (pl : IsPart vl none) (pu : IsPart vu none) (ps : IsPart vs (some (-1)))
    (h : Q (.ref s.heap.objs.size) { s with heap := s.heap.push { cls := .type "tuple", data := .seq items.toList.reverse.toArray } })
    (hsz : items.size ≤ sizeLine) : wpAny (model prog w) A
                                                                                                                  (getItem (.ref t) (.ref sl)) Q E s := by
  have htake : sizeOk (.seq items.toList.reverse.toArray) := by
    show items.toList.reverse.toArray.size ≤ sizeLine
    rw [List.size_toArray, List.length_reverse, Array.length_toList]
    exact hsz
  obtain ⟨os, hos,
                                                                                                                hcs, hds⟩ := id hs
  have hTs : s.TypeIs
                                                                                                                (.ref sl) "slice" := ⟨os, hos, hcs⟩
  unfold getItem
  try with_reducible
                                                                                                                refine wpAny_holding ?_
  first | refine wpAny_bind
                                                                                                                (wpAny_pure ?_) | skip
  refine wpAny_bind
                                                                                                                (wpAny_sequenceKey ht.typeIs (by decide) ?_)
  refine wpAny_bind (wpAny_callSpecial?_slot (name :=
                                                                                                                Str.ofString "__getitem__") ht.typeIs PyProof.Rows.slot_tuple_getitem
    (wpAny_call_entry PyProof.Rows.slot_tuple_getitem ht.typeIs entry_tuple_getitem ?_
                                                                                                                  (args_tuple_getitem _ _)))
  show wpAny _ _ (Builtin.Tuple.tupleItemsOf
                                                                                                                (.ref t) >>= _) _ _ s
  refine wpAny_bind
                                                                                                                (tupleItemsOf_ ht ?_)
  refine wpAny_bind
                                                                                                                (wpAny_typeOf hTs ?_)
  rw [if_pos (by decide)]
  refine wpAny_bind (sliceApplied_rev hs pl pu ps ?_)
  have hno : ¬ ((((items.size : Int) - 1) == 0 && (-1 : Int) == 1 && items.size == items.size) = true) := by
    intro q
    rw [Bool.and_eq_true,
                                                                                                                  Bool.and_eq_true] at q
    have q2 := q.1.2
    revert q2
    decide
  show wpAny _ _ (if (((items.size : Int) - 1) == 0 && (-1 : Int) == 1 && items.size == items.size) = true then _ else _) _ _ s
  rw [if_neg hno, pick_rev]
  first
    | exact wpAny_bind (m := Builtin.Tuple.tupleExact _)
                                                                                                                  (wpAny_newObj_type (wpAny_pure ⟨_, rfl, wpAny_pure h⟩) htake)
    | exact wpAny_bind (m := Builtin.Tuple.tupleExact _) (wpAny_newObj_type
                                                                                                                  (wpAny_bind (wpAny_pure (wpAny_pure ⟨_, rfl, wpAny_pure h⟩))) htake)
    | exact wpAny_bind (wpAny_bind (m := Builtin.Tuple.tupleExact _)
                                                                                                                  (wpAny_newObj_type (wpAny_pure (wpAny_pure ⟨_, rfl, wpAny_pure h⟩)) htake))
    | exact wpAny_bind (wpAny_bind (m := Builtin.Tuple.tupleExact _)
                                                                                                                  (wpAny_newObj_type (wpAny_pure ⟨_, rfl, wpAny_pure h⟩) htake))
end
end HT
namespace Mv
open L2 PySem.Spec PySem PyProof.Rows
def tRev (K : PySem.W.Frag) (te : TE) : TE := fun σ H Q => te σ H fun x H1 => (∃ a xs, x = .ref a ∧ SqL K H1 a xs ∧ ∀ p, H1 p = none → Q (.ref p) (upd H1 p (.lst xs.reverse))) ∨
  (∃ a xs, x = .ref a ∧ SqT K H1 a xs ∧ ∀ p, H1 p = none → Q (.ref p) (upd H1 p (.tup xs.reverse)))
section
variable {X : Cx}
theorem pe_rev {e : Expr} {te : TE} {k : Nat} {p1 p2 p3 pos : Pos} (he : PE X e te) : PE X (.Subscript e (.Slice none none (some (.UnaryOp .USub (.Constant (.int 1) k p1) p2)) p3) pos) (tRev X.K te) := by
  refine ⟨fun pins s σ H Q I h =>
                                                                                                                ?_⟩
  refine Subscript_ (thn
                                                                                                                (he.run pins s σ H _ I h) fun v s1 ⟨x, H1, I1, r1, q1⟩ => ?_)
  have hst : PO X (some (.UnaryOp .USub (.Constant (.int 1) k p1) p2)) (tPart
                                                                                                                (tUn (rU fun i => .int (-i)) (tC (.int 1)))) := po_some (pe_un un_neg pe_int)
  refine wpAny_Slice (thn (po_none.run pins s1 σ H1 (fun o H2 => o = none ∧
                                                                                                                H2 = H1) I1 ⟨rfl, rfl⟩) fun vl s2 ⟨l, H2, I2, pl, el, e2⟩ => ?_)
  subst el e2
  refine thn (po_none.run pins s2 σ H2 (fun o H3 => o = none ∧
                                                                                                                H3 = H2) I2 ⟨rfl, rfl⟩) fun vu s3 ⟨u, H3, I3, pu, eu, e3⟩ => ?_
  subst eu e3
  refine thn (hst.run pins s3 σ H3 (fun o H4 => o = some (-1) ∧ H4 = H3) I3 ⟨1,
                                                                                                                rfl, -1, rfl, rfl, rfl⟩) fun vs s4 ⟨o, H4, I4, ps, eo, e4⟩ => ?_
  subst eo e4
  have I5 : Inv X pins σ H4 { s4 with heap := s4.heap.push { cls := .type "slice", data :=
                                                                                                                .fields #[vl, vu, vs] } } := I4.kept (t' := s4.toks) fun b ob q => Heap.get?_push_of_some _ q
  rcases q1 with ⟨a, xs, ex, hx, q⟩ | ⟨a, xs, ex, hx, q⟩
  · subst ex
    cases r1
    obtain ⟨its, r,
                                                                                                                  ht, hz⟩ := I5.list hx
    have hlen := r.length
    show wpAny (model X.prog X.w) X.A (subscriptTail e (.Slice none none (some (.UnaryOp .USub (.Constant (.int 1) k p1) p2)) p3) (.ref a)
                                                                                                                  (.ref s4.heap.objs.size)) (EP X pins σ Q) X.xe { s4 with heap := s4.heap.push { cls := .type "slice", data := .fields #[vl, vu, vs] } }
    refine tail_any (ops := [.ref a, .ref s4.heap.objs.size]) ht.isList.typeIs
                                                                                                                  (PySem.slot_list_getitem.lookup) ?_ (by with_unfolding_all rfl)
    refine wpAny_getItem_list_slice ht.isList (Heap.IsSliceOf.new _ vl vu vs) pl pu ps
                                                                                                                  (by decide) ?_ (by rw [List.size_toArray]; omega)
    rw [PySem.W.krv_pick]
    refine ⟨.ref _, _, I5.laid (t' := s4.toks) (o := .lst xs.reverse) (fun b ob q =>
                                                                                                                  Heap.get?_push_of_some _ q) (Nat.le_refl _) ?_, rfl, q _ (I5.hok.fresh (Nat.le_refl _))⟩
    exact ⟨by rw [List.length_reverse]; exact hz,
                                                                                                                  _, 0, r.reverse, Heap.get?_push_size _ rfl⟩
  · subst ex
    cases r1
    obtain ⟨its, r, ht, hz⟩ := I5.tuple hx
    have hlen := r.length
    show wpAny (model X.prog X.w) X.A (subscriptTail e (.Slice none none (some (.UnaryOp .USub (.Constant (.int 1) k p1) p2)) p3) (.ref a)
                                                                                                                  (.ref s4.heap.objs.size)) (EP X pins σ Q) X.xe { s4 with heap := s4.heap.push { cls := .type "slice", data := .fields #[vl, vu, vs] } }
    refine tail_any (ops := [.ref a, .ref s4.heap.objs.size]) ht.typeIs PyProof.Rows.slot_tuple_getitem.lookup ?_ (by with_unfolding_all rfl)
    refine HT.getItem_tuple_rev ht (Heap.IsSliceOf.new _ vl vu vs) pl pu ps ?_ (by rw [List.size_toArray]; omega)
    refine ⟨.ref _, _, I5.laid (t' := s4.toks) (o := .tup xs.reverse) (fun b ob q => Heap.get?_push_of_some _ q) (Nat.le_refl _) ?_, rfl, q _ (I5.hok.fresh (Nat.le_refl _))⟩
    exact ⟨by rw [List.length_reverse]; exact hz, _, r.reverse, IsTup.new _ _⟩
def dRev : D → Option Sl
  | .list xs => some (.own false xs.reverse)
  | .tuple xs => some (.val (.tuple xs.reverse))
  | _ => none
variable {W : WX}
theorem ve_rev {e : Expr} {f : M Sl} {k : Nat} {p1 p2 p3 pos : Pos} (h : VE X W e f) : VE X W (.Subscript e (.Slice none none (some (.UnaryOp .USub (.Constant (.int 1) k p1) p2)) p3) pos) (vUn dRev f) := fun B =>
  peWk (pe_rev (h.d B)) fun σ H Q ⟨F, en, S, p⟩ => by
    refine ⟨F, en, S, (Post.bind p).imp fun d en1 F1 H1 S1 s1 q v rv => ?_⟩
    have k := Post.opt S1 q
    unfold dRev at k
    split at k
    · obtain ⟨a1, us, rfl, h1, r1⟩ := lst_of rv
      exact .inl ⟨a1, us, rfl, .inl (rd_mono S1.sub h1), k.lst S1.sub (dps_rev r1)⟩
    · obtain ⟨a1, us, rfl, h1, r1⟩ := tup_of rv
      exact .inr ⟨a1, us, rfl, sqT_mono S1.sub h1, k.tup S1.sub (dps_rev r1)⟩
    · exact k.elim
def dBool : List D → Option Sl
  | [.int i] => some (.val (.bool (i != 0)))
  | [.bool b] => some (.val (.bool b))
  | _ => none
theorem cv_bool : CV X (.type "bool") dBool := cv_of call_bool1 fun xs H Q F as s ra k => by
  unfold dBool at k
  split at k
  · rename_i i
    obtain ⟨u, rfl, r⟩ := dps1 ra
    rw [int_of r]
    exact .inl ⟨i, rfl, k.val s (.bl _)⟩
  · rename_i b
    obtain ⟨u, rfl, r⟩ := dps1 ra
    rw [bl_of r]
    exact .inr ⟨b, rfl, k.val s (.bl _)⟩
  · exact k.elim
def dStr : List D → Option Sl
  | [.int i] => if i.natAbs.log2 < 1920 then some (.val (.str (toString i))) else none
  | [.str x] => some (.val (.str x))
  | _ => none
theorem cv_str : CV X (.type "str") dStr := cv_of (call_str_int.or SkE.call_str_str) fun xs H Q F as s ra k => by
  unfold dStr at k
  split at k
  · rename_i i
    obtain ⟨u, rfl, r⟩ := dps1 ra
    rw [int_of r]
    split at k
    · rename_i hl
      exact .inl ⟨i, rfl, hl, k.val s (.str _)⟩
    · exact k.elim
  · rename_i b
    obtain ⟨u, rfl, r⟩ := dps1 ra
    rw [str_of r]
    exact .inr ⟨b, rfl, k.val s (.str _)⟩
  · exact k.elim
end
end Mv
namespace Mv
open L2 PySem.Spec PySem PyProof.Rows
/-! ### a def that calls itself: the promise by depths; at depth 0 it promises nothing -/
section
variable {P : Program} {w : World} {K : PySem.W.Frag} {mg : Str → Option Value} {base : Heap} {x : Str} {k : Nat} {f : Addr} {fd : FuncData} {ps : List Str} {qual : Str} {st : Stmt}
theorem fnb_zero (F : Fun K x qual st f fd) (hm : mg x = some (.ref f)) (b : Binds K fd ps []) : FnB P w K mg base x k (fun _ _ => none) :=
  ⟨f, fd, ps, ⟨fun _ _ _ _ h => let ⟨_, _, _, _, _, _, _, _, _, _, _, _, z⟩ := h; z.elim, fun _ _ _ _ _ _ _ _ _ _ _ _ _ h => let ⟨_, _, _, _, _, _, _, _, _, _, _, _, z⟩ := h; z.elim⟩, hm, F.kp, b⟩
theorem fnv_zero (F : Fun K x qual st f fd) (hm : mg x = some (.ref f)) (b : Binds K fd ps []) : FnV P w K mg base x k (fun _ => none) :=
  ⟨f, fd, ps, ⟨fun _ _ _ _ h => let ⟨_, _, _, _, z⟩ := h; z.elim, fun _ _ _ _ _ _ _ _ _ _ _ _ _ h => let ⟨_, _, _, _, z⟩ := h; z.elim⟩, hm, F.kp, b⟩
end
end Mv

namespace Mv
open L2 PySem.Spec PySem PyProof.Rows

/-! ### a comprehension over a name's own list: it stays own -/
def lcvR (i : Nat) (xs : List D) : R Sl → R Sl
  | .ok r e => match e[i]? with
    | some .no => .ok r (e.set i (.own false xs))
    | _ => .bad
  | _ => .bad
def vLcv (i : Nat) (mode : List D → List D) (pat : D → En → Option En) (tt : M Bool) (el : M Sl) (vs : List Nat) : M Sl := fun en => match en[i]? with
  | some (.own false xs) => lcvR i xs (vLc (fun e => .ok (mode xs) e) pat tt el vs (en.set i .no))
  | some (.val d) => match seqOf d with
    | some xs => vLc (fun e => .ok (mode xs) e) pat tt el vs en
    | none => .bad
  | _ => .bad
section
variable {K : PySem.W.Frag} {mg : Str → Option Value} {B : Bs} {σ : L2.St} {en : En} {F F' H H' : Hp}
theorem set_same {σ : L2.St} {i : Nat} {v : V} (h : σ[i]? = some (some v)) : σ.set i (some v) = σ := by
  refine List.ext_getElem? fun j =>
                                                                                                                ?_
  rw [List.getElem?_set]
  by_cases e : i = j
  · subst e
    rw [if_pos rfl, if_pos (List.getElem?_eq_some_iff.mp h).1, h]
  · rw [if_neg e]
/-- a reading under a list that is kept -/
theorem tv_guard {W : WX} {i : Nat} {a : Addr} {vs : List V} {xs : List D} {f : M Sl} {Q : VK} (S : Sim K B σ en F H) (hi : en[i]? = some (.own false xs)) (h1 : σ[i]? = some (some (.ref a))) (h2 : H a = some (.lst vs))
    (q : Post K mg B W σ F (fun r en' F' H' => ∀ v, Rl K B σ en' F' H' v r → Q v H') (lcvR i xs (f (en.set i .no)))) : tV K mg (B.more F a vs) W f σ H Q ∧ F a = none ∧ DpAll K F vs xs ∧ B.Kp a = none := by
  obtain ⟨a', vs', e1, e2, e3, e4, e5, e6, _⟩ := S.own i false xs hi
  rw [h1] at e1
  cases e1
  rw [h2] at e2
  cases e2
  have hz := e6 rfl
  have S1 : Sim K (B.more F a vs) σ (en.set i .no) F H := (S.forget i).under (.refl _) (fun c o e => .inl e) h2 fun j hj e => by
    have oj : isOwn en j ∧ j ≠ i := by
      rcases isOwn_set hj with ⟨_, _, _, z⟩ | ⟨z, h⟩
      · cases z
      · exact ⟨h, z⟩
    exact S.apart j i a oj.2 oj.1 ⟨_, _, hi⟩ e h1
  refine ⟨⟨F, en.set i .no, S1, ?_⟩, e3, e4, e5⟩
  cases hr : f (en.set i .no) with
  | exc c fs e => rw [hr] at q; exact q.elim
  | bad => rw [hr] at q; exact q.elim
  | ok r e =>
    rw [hr] at q
    unfold lcvR at q
    dsimp only at q
    split at q
    · rename_i hno
      intro F' H' S2 s2 v rv
      obtain ⟨S3, g1, g2, g3⟩ := S2.outer S.f0 S.new e5 e3
      have rl : Rl K B σ e F' H' (.ref a) (.own false xs) := ⟨rfl, a, vs, rfl, g1, g2, dps_mono s2 e4, e5, hz, g3⟩
      have S4 := S3.store (i := i) rl
      rw [set_same h1] at S4
      refine q F' H' S4 s2 v ?_
      cases r with
      | no => exact rv
      | val d => exact rv
      | own b ys =>
        obtain ⟨rfl, a', us, rfl, k1, k2, k3, k4, k5, k6⟩ := rv
        have k4' : upd B.Kp a (.lst vs) a' = none := k4
        have hne : a' ≠ a := fun z => by rw [z, upd_same] at k4'; cases k4'
        rw [upd_ne hne] at k4'
        refine ⟨rfl, a', us, rfl, k1, k2, k3, k4', fun z => k5 (.inl z), fun j hj e => ?_⟩
        rcases isOwn_set hj with ⟨rfl, _⟩ | ⟨_, hj⟩
        · rw [h1] at e
          cases e
          exact hne rfl
        · exact k6 j hj e
    · exact q.elim
end
/-- what is walked: the list itself, or its items with their places -/
theorem wi_kept {X : Cx} {B : Bs} {W : WX} {F0 : Hp} {i : Nat} {a : Addr} {vs : List V} {xs : List D} {σ : L2.St} {H : Hp} {R : It → Hp → Prop} (h1 : σ[i]? = some (some (.ref a))) (rx : ∀ F, Same F0 F → DpAll X.K F vs xs)
    (h : tI X.K X.mg (B.more F0 a vs) W (fun e => .ok xs e) σ H R) : iSeq X.K (tVar i) σ H R := by
  obtain ⟨F, en, S, p⟩ := h
  have ha : H a = some (.lst vs) := S.kp _ _ upd_same
  refine ⟨_, h1, .inl ⟨a, vs, rfl, .inl (.inl ha), p F H S (.refl _) _ ?_⟩⟩
  have r := rx F S.f0
  have hl := dps_len r
  refine ⟨_, _, by rw [← hl]; exact walk_list (xs := vs), fun F1 H1 _ _ s3 => (show SqL X.K H1 a vs from .inl (.inl (s3 _ _ upd_same))), fun j F1 H1 x H2 hj s1 s2 _ y => ?_⟩
  obtain ⟨rfl, e⟩ := y
  exact ⟨F1, .refl s2, _, List.getElem?_eq_getElem hj, dp_mono s1 (dps_get r e (List.getElem?_eq_getElem hj))⟩
theorem we_kept {X : Cx} {B : Bs} {W : WX} {F0 : Hp} {i : Nat} {a : Addr} {vs : List V} {xs : List D} {σ : L2.St} {H : Hp} {R : It → Hp → Prop} {es : List Expr} {ta : TA} (hta : ∀ Q : List V → Hp → Prop, tVar i σ H (fun v H' => Q [v] H') → ta σ H Q)
    (h1 : σ[i]? = some (some (.ref a))) (rx : ∀ F, Same F0 F → DpAll X.K F vs xs)
    (h : tI X.K X.mg (B.more F0 a vs) W (fun e => .ok (enumD xs) e) σ H R) : iEnumS X.K ta σ H R := by
  obtain ⟨F, en, S, p⟩ := h
  have ha : H a = some (.lst vs) := S.kp _ _ upd_same
  refine hta _ ⟨_, h1, ?_⟩
  have r := rx F S.f0
  refine ⟨.l, a, vs, rfl, .inl (.inl ha), p F H S (.refl _) _ (wk_itT (by rw [dps_len r]; simp [enumD]) (fun F1 H1 _ _ s3 => .inl (.inl (s3 _ _ upd_same))) fun j hj => ?_)⟩
  rw [dps_len r] at hj
  exact ⟨[.int (j : Nat), xs[j]], by simp [enumD, hj], .cons (.int _) (dps_one (dps_getD r (List.getElem?_eq_getElem hj)))⟩
theorem Sim.base {K : PySem.W.Frag} {B : Bs} {σ σ' : L2.St} {en en' : En} {F F' H H' : Hp} (S : Sim K B σ en F H) (S' : Sim K ⟨F, B.Kp, B.Z, B.io⟩ σ' en' F' H') : Sim K B σ' en' F' H' :=
  ⟨S'.len, S'.sub, S.f0.trans S'.f0, fun c o e => (S'.new c o e).elim (fun z => S.new c o z) .inr, S'.kp, S'.z, S'.val, S'.own, S'.apart⟩
theorem tv_base {K : PySem.W.Frag} {mg : Str → Option Value} {B : Bs} {W : WX} {σ : L2.St} {en : En} {F H : Hp} {f : M Sl} {Q : VK} (S : Sim K B σ en F H) (q : Post K mg B W σ F (fun r en' F' H' => ∀ v, Rl K B σ en' F' H' v r → Q v H') (f en)) :
    tV K mg ⟨F, B.Kp, B.Z, B.io⟩ W f σ H Q := by
  refine ⟨F, en, ⟨S.len, S.sub, .refl _, fun c o e => .inl e, S.kp, S.z, S.val, S.own, S.apart⟩, ?_⟩
  cases hr : f en with
  | bad => rw [hr] at q; exact q.elim
  | exc c fs e =>
    rw [hr] at q
    exact fun F' H' cls d S' s r => q F' H' cls d (S.base S') s r
  | ok r e =>
    rw [hr] at q
    exact fun F' H' S' s v rv => q F' H' (S.base S') s v (by cases r <;> exact rv)
theorem ws_base {X : Cx} {B : Bs} {W : WX} {F0 : Hp} {i : Nat} {v : V} {d : D} {xs : List D} {σ : L2.St} {H : Hp} {R : It → Hp → Prop} (h1 : σ[i]? = some (some v)) (h2 : Dp X.K F0 v d) (hs : seqOf d = some xs)
    (h : tI X.K X.mg ⟨F0, B.Kp, B.Z, B.io⟩ W (fun e => .ok xs e) σ H R) : iSeq X.K (tVar i) σ H R := by
  obtain ⟨F, en, S, p⟩ := h
  have r := dp_mono S.f0 h2
  cases d with
  | list ds =>
    cases hs
    obtain ⟨a, us, rfl, l, r⟩ := lst_of r
    exact ⟨_, h1, .inl ⟨_, _, rfl, S.sub.seq (.inl l), p F H S (.refl _) _ (wk_list (.inl l) r)⟩⟩
  | tuple ds =>
    cases hs
    obtain ⟨a, us, rfl, l, r⟩ := tup_of r
    exact ⟨_, h1, .inr (.inl ⟨_, _, rfl, sqT_mono S.sub l, p F H S (.refl _) _ (wk_tup l r)⟩)⟩
  | _ => cases hs
theorem we_base {X : Cx} {B : Bs} {W : WX} {F0 : Hp} {i : Nat} {v : V} {d : D} {xs : List D} {σ : L2.St} {H : Hp} {R : It → Hp → Prop} {ta : TA} (hta : ∀ Q : List V → Hp → Prop, tVar i σ H (fun v H' => Q [v] H') → ta σ H Q) (h1 : σ[i]? = some (some v)) (h2 : Dp X.K F0 v d) (hs : seqOf d = some xs)
    (h : tI X.K X.mg ⟨F0, B.Kp, B.Z, B.io⟩ W (fun e => .ok (enumD xs) e) σ H R) : iEnumS X.K ta σ H R := by
  obtain ⟨F, en, S, p⟩ := h
  refine hta _ ⟨_, h1, ?_⟩
  obtain ⟨k, c, us, rfl, l, r⟩ := src_of (dp_mono S.f0 h2) hs
  refine ⟨k, c, us, rfl, src_mono S.sub l, p F H S (.refl _) _ (wk_itT (by rw [dps_len r]; simp [enumD]) (fun F2 H2 z1 z2 _ => src_mono (z1.trans z2) l) fun j hj => ?_)⟩
  rw [dps_len r] at hj
  exact ⟨[.int (j : Nat), xs[j]], by simp [enumD, hj], .cons (.int _) (dps_one (dps_getD r (List.getElem?_eq_getElem hj)))⟩
section
variable {X : Cx} {W : WX} {elt tg : Expr} {ifs : List Expr} {scope : Scope} {pos p0 p1 : Pos} {x : Str} {i : Nat} {pat : D → En → Option En} {tt : M Bool} {el : M Sl}
theorem rd_lcv {B : Bs} {vs : List Nat} {g : TG} {tb : TT} {te : TE} {σ : L2.St} {H : Hp} {Q : VK}
    (hg : ∀ B v σ H Q, tG X.K B vs pat v σ H Q → g v σ H Q) (ht : ∀ B σ H Q, tBl X.K X.mg B W0 tt σ H Q → tb σ H Q) (he : ∀ B σ H Q, tD X.K X.mg B W0 (vD el) σ H Q → te σ H Q)
    (h : tV X.K X.mg B W (vLcv i id pat tt el vs) σ H Q) : tLc (iSeq X.K (tVar i)) g tb te vs σ H Q := by
  obtain ⟨F, en, S, q⟩ := h
  unfold vLcv at q
  split at q
  · rename_i xs hi
    obtain ⟨a, us, h1, h2, _⟩ := S.own i false xs hi
    obtain ⟨t, e3, e4, _⟩ := tv_guard S hi h1 h2 q
    exact rd_lc (fun R z => wi_kept h1 (fun F s => dps_mono s e4) z) hg ht he t
  · rename_i d hi
    obtain ⟨v, h1, h2⟩ := S.val i d hi
    split at q
    · rename_i xs hs
      exact rd_lc (fun R z => ws_base h1 h2 hs z) hg ht he (tv_base S q)
    · exact q.elim
  · exact q.elim
theorem rd_lce {B : Bs} {vs : List Nat} {g : TG} {tb : TT} {te : TE} {σ : L2.St} {H : Hp} {Q : VK} {ta : TA} (hta : ∀ Q : List V → Hp → Prop, tVar i σ H (fun v H' => Q [v] H') → ta σ H Q)
    (hg : ∀ B v σ H Q, tG X.K B vs pat v σ H Q → g v σ H Q) (ht : ∀ B σ H Q, tBl X.K X.mg B W0 tt σ H Q → tb σ H Q) (he : ∀ B σ H Q, tD X.K X.mg B W0 (vD el) σ H Q → te σ H Q)
    (h : tV X.K X.mg B W (vLcv i enumD pat tt el vs) σ H Q) : tLc (iEnumS X.K ta) g tb te vs σ H Q := by
  obtain ⟨F, en, S, q⟩ := h
  unfold vLcv at q
  split at q
  · rename_i xs hi
    obtain ⟨a, us, h1, h2, _⟩ := S.own i false xs hi
    obtain ⟨t, e3, e4, _⟩ := tv_guard S hi h1 h2 q
    exact rd_lc (fun R z => we_kept (es := []) hta h1 (fun F s => dps_mono s e4) z) hg ht he t
  · rename_i d hi
    obtain ⟨v, h1, h2⟩ := S.val i d hi
    split at q
    · rename_i xs hs
      exact rd_lc (fun R z => we_base hta h1 h2 hs z) hg ht he (tv_base S q)
    · exact q.elim
  · exact q.elim
theorem ve_lcv (own : List (Str × Nat)) (hc : X.calm = true) (hN : X.N.Nodup) (ok : BlkOk X.N X.env.scope scope own)
    (hg : ∀ (s : Shared) (H : Hp) (C : Addr) (cl : List (Str × Addr)) (fp : List Addr), VG (X.blk s H scope (compEnvC scope cl C X.env) fp) tg (own.map (·.2)) pat)
    (ht : ∀ (s : Shared) (H : Hp) (C : Addr) (cl : List (Str × Addr)) (fp : List Addr), VTs (X.blk s H scope (compEnvC scope cl C X.env) fp) W0 ifs tt)
    (he : ∀ (s : Shared) (H : Hp) (C : Addr) (cl : List (Str × Addr)) (fp : List Addr), VE (X.blk s H scope (compEnvC scope cl C X.env) fp) W0 elt el) (hx : X.N[i]? = some x := by rfl) (hv : Vis X.env.scope x := by first | exact Or.inl rfl | exact Or.inr (Or.inl rfl) | exact Or.inr (Or.inr rfl)) (hd : (x == ("__debug__" : Str)) = false := by decide)
    (hcd : (x == ("__classdict__" : Str)) = false := by decide) (hs : ∀ y, foldedSetIterable (.Name x p0) X.env y = pure y := by intro _; rfl) :
    VE X W (.ListComp elt [⟨tg, .Name x p0, ifs, 0⟩] scope pos) (vLcv i id pat tt el (own.map (·.2))) := fun B =>
  peWk (pe_lc hc hN (pi_seq (pe_var hx hv hd hcd)) ok (fun s H C cl fp => pgBlk (hg s H C cl fp)) (fun s H C cl fp => ptsBlk (ht s H C cl fp)) (fun s H C cl fp => peBlk (he s H C cl fp)) hs) fun σ H Q h =>
    rd_lcv (fun B _ _ _ _ h => ⟨B, h⟩) (fun B _ _ _ h => ⟨B, h⟩) (fun B _ _ _ h => ⟨B, h⟩) h
theorem ve_lce {elts : List Expr} {kk : Nat} {tpos : Pos} (own : List (Str × Nat)) (hc : X.calm = true) (hN : X.N.Nodup) (hgl : Gl X "enumerate") (hm : X.mg "enumerate" = none) (ok : BlkOk X.N X.env.scope scope own)
    (hg : ∀ (s : Shared) (H : Hp) (C : Addr) (cl : List (Str × Addr)) (fp : List Addr), VG (X.blk s H scope (compEnvC scope cl C X.env) fp) (.Tuple elts kk tpos) (own.map (·.2)) pat)
    (ht : ∀ (s : Shared) (H : Hp) (C : Addr) (cl : List (Str × Addr)) (fp : List Addr), VTs (X.blk s H scope (compEnvC scope cl C X.env) fp) W0 ifs tt)
    (he : ∀ (s : Shared) (H : Hp) (C : Addr) (cl : List (Str × Addr)) (fp : List Addr), VE (X.blk s H scope (compEnvC scope cl C X.env) fp) W0 elt el) (hx : X.N[i]? = some x := by rfl) (hv : Vis X.env.scope x := by first | exact Or.inl rfl | exact Or.inr (Or.inl rfl) | exact Or.inr (Or.inr rfl)) (hd : (x == ("__debug__" : Str)) = false := by decide)
    (hcd : (x == ("__classdict__" : Str)) = false := by decide) (hst : starEach [.Name x p0] X.env = [(false, eval (.Name x p0) X.env)] := by rfl) (hs : ∀ y, foldedSetIterable (.Call (.Name "enumerate" p1) [.Name x p0] [] pos) X.env y = pure y := by intro _; rfl) {pos2 : Pos} :
    VE X W (.ListComp elt [⟨.Tuple elts kk tpos, .Call (.Name "enumerate" p1) [.Name x p0] [] pos, ifs, 0⟩] scope pos2) (vLcv i enumD pat tt el (own.map (·.2))) := fun B =>
  peWk (pe_lc hc hN (pi_enumS hgl hm (pa_cons (pe_var hx hv hd hcd) pa_nil hst) hst) ok (fun s H C cl fp => pgBlk (hg s H C cl fp)) (fun s H C cl fp => ptsBlk (ht s H C cl fp)) (fun s H C cl fp => peBlk (he s H C cl fp)) hs) fun σ H Q h =>
    rd_lce (fun Q z => z) (fun B _ _ _ _ h => ⟨B, h⟩) (fun B _ _ _ h => ⟨B, h⟩) (fun B _ _ _ h => ⟨B, h⟩) h
end
end Mv

/-! ### sorted of values that can be compared: lists and tuples, to any depth -/
namespace Mv
open L2 PySem.Spec PySem PyProof.Rows
section
variable {prog : Program} {w : World} {A :
                                                                                                              Around} {E : Value → Shared → Prop} {s : Shared}
theorem collect_seq {l : Addr} {vs : List Value} {Q : List Value → Shared → Prop} {T : String} {o : Obj} {n : Nat} (hT : T = "list" ∨ T = "tuple") (ho : s.heap.get? l = some o) (hc : o.cls = .type T) (hd : o.data = .seq vs.toArray n)
    (h : Q vs { s with heap := (s.heap.push (seqObj "list" #[] 0)).update s.heap.objs.size (Obj.mapSeq (· ++ vs.toArray)) }) (hsz : vs.length ≤ sizeLine) :
    wpAny (model prog w) A
                                                                                                                  (collect (.ref l)) Q E s := by
  unfold collect
  refine wpAny_bind (wpAny_runValue
                                                                                                                (codeAny_builtin entry_proto_collect' ?_))
  show wpAny _ _ (do again (.builtin "list.__iadd__" ⟨[←
                                                                                                                newList [], .ref l], []⟩)) _ _ s
  refine wpAny_bind (wpAny_newList (wpAny_pure ⟨Code.quiet_builtin _
                                                                                                                (by decide +kernel), codeAny_builtin entry_list_iadd' ?_⟩))
  show wpAny _ _ (Builtin.List.listExtendWith (.ref s.heap.objs.size) (.ref l)
                                                                                                                (.ref s.heap.objs.size)) _ _ { s with heap := s.heap.push (seqObj "list" #[] 0) }
  unfold
                                                                                                                Builtin.List.listExtendWith
  have ho' : (s.heap.push (seqObj "list" #[] 0)).get? l = some o :=
                                                                                                                Heap.get?_push_of_some _ ho
  refine wpAny_bind (wpAny_typeOf (T := T) ⟨o, ho', hc⟩ ?_)
  rw [if_pos (by rcases hT with rfl | rfl <;> simp)]
  refine wpAny_bind
                                                                                                                (listItems_at ho' hd ?_)
  refine wpAny_bind (listItems_at (xs := #[])
                                                                                                                (n := 0) (Heap.get?_push_size _ rfl) rfl ?_)
  rw [if_neg (by simp)]
  refine wpAny_bind (listUpdate_at (xs := #[]) (n := 0) (Heap.get?_push_size _ rfl) rfl ?_ (Nat.zero_le _) (by show
                                                                                                                (#[] ++ vs.toArray).size ≤ sizeLine + 1; simp only [Array.size_append, List.size_toArray, List.length_nil]; omega))
  refine wpAny_pure ?_
  show wpAny
                                                                                                                (model prog w) A (do
      let o ← load s.heap.objs.size
      match o.data with
      | .seq xs _ => pure xs.toList
      | _ => unsupported "internal:collect") Q E { s with heap := (s.heap.push
                                                                                                                    (seqObj "list" #[] 0)).update s.heap.objs.size (Obj.mapSeq (· ++ vs.toArray)) }
  refine wpAny_bind (wpAny_load (get?_update_seq
                                                                                                                (Heap.get?_push_size _ rfl) _) ?_)
  show wpAny _ _ (pure ((#[] :
                                                                                                                Array Value) ++ vs.toArray).toList) Q E _
  rw [show ((#[] :
                                                                                                                Array Value) ++ vs.toArray).toList = vs by simp]
  exact wpAny_pure h
theorem sorted_of_seq {l : Addr} {vs : List Value} {Q : Value → Shared → Prop} {T : String} {o : Obj} {n : Nat} (hT : T = "list" ∨ T = "tuple") (ho : s.heap.get? l = some o) (hc : o.cls = .type T) (hd : o.data = .seq vs.toArray n) (hL : vs.length ≤ sizeLine)
    (body : ∀ E' : Value → Shared → Prop, wpAny (model prog w) A.in1.in1 (Builtin.«list.sort» ⟨[.ref (s.heap.objs.size + 1)], []⟩) (fun f s' => f = .done (.ret .none) ∧ Q (.ref (s.heap.objs.size + 1)) s') E' { s with heap := PySem.W.copyHeap s.heap vs }) :
    wpAny (model prog w) A (call (.builtin "sorted") [.ref l] []) Q E s := by
  refine call_function_entry_kw kind_sorted plain_sorted entry_sorted (args_sorted1 _) ?_
  unfold Builtin.«sorted»
  refine wpAny_bind (m :=
                                                                                                                checkCount "sorted" 1 1 _) (wpAny_pure ?_)
  refine wpAny_bind (collect_seq hT ho hc hd ?_ hL)
  refine wpAny_bind
                                                                                                                (wpAny_newList ?_ hL)
  have hsz : ((s.heap.push (seqObj "list" #[] 0)).update s.heap.objs.size
                                                                                                                (Obj.mapSeq (· ++ vs.toArray))).objs.size = s.heap.objs.size + 1 := by
    rw [Heap.size_update,
                                                                                                                  size_push']
  show wpAny _ _ _ _ _ { s with heap := PySem.W.copyHeap s.heap vs }
  rw [hsz]
  refine wpAny_bind (wpAny_holding (wpAny_call_entry_kw slot_list_sort ⟨_, PySem.W.copyHeap_at s.heap vs, rfl⟩ entry_list_sort ?body (args_list_sort _)))
  case body =>
    show wpAny (model prog w) A.in1.in1 (Builtin.«list.sort» ⟨[.ref (s.heap.objs.size + 1)], []⟩) _ _ _
    refine wpAny_mono (body _)
                                                                                                                  (fun f s' hf => ?_) fun _ _ e => e
    obtain ⟨rfl, hq⟩ := hf
    exact ⟨_, rfl,
                                                                                                                  wpAny_pure ⟨_, rfl, hq⟩⟩

/-- sorted(xs) of a list or tuple of alike data -/
theorem sorted_seq_data {l : Addr} {vs : List Value} {bs : List D} {R : Value → D → Prop} {Q : Value → Shared → Prop} {T : String} {o : Obj} {n : Nat} (hT : T = "list" ∨ T = "tuple") (ho : s.heap.get? l = some o) (hc : o.cls = .type T) (hd : o.data = .seq vs.toArray n)
    (e : PySem.W.EachIs R vs bs) (er : PySem.W.EachIs (fun v b => ∃ as, Reads s.heap v b as) vs bs) (hal : PySem.W.AllAlike bs) (hk : PySem.W.Sortable bs) (hL : bs.length ≤ sizeLine)
    (hu : ∀ b, b ∈ bs → A.units + 2 + b.depth < cLine) (h : ∀ out, out.length = bs.length → PySem.W.EachIs R out (bs.mergeSort (PySem.W.dataLe false id)) → Q (.ref (s.heap.objs.size + 1)) { s with heap := sortedAll s.heap vs (List.toArray out) }) :
    wpAny (model prog w) A (call
                                                                                                                  (.builtin "sorted") [.ref l]) Q E s := by
  have er' : PySem.W.EachIs (fun v b => ∃ as, Reads (PySem.W.sortingHeap (PySem.W.copyHeap s.heap vs) (s.heap.objs.size + 1) vs) v (id b) as) vs bs := er.mono fun _ _ ⟨as, r⟩ => ⟨as, PyProof.Rows.Reads.keeps (fun _ _ => PySem.W.sorting_copy_old) r⟩
  have hL' : vs.length ≤ sizeLine := by rw [e.length]; exact hL
  refine sorted_of_seq hT ho hc hd hL' fun _ => PySem.W.list_sort_vals (κ := PySem.W.dataKind (PySem.W.sortingHeap (PySem.W.copyHeap s.heap vs) (s.heap.objs.size + 1) vs) bs) (s := { s with heap := PySem.W.copyHeap s.heap vs }) (PySem.W.copyHeap_at s.heap vs) ?_ hL' ⟨rfl, ?_⟩
  · exact PySem.W.SortsAt.data (s := { s with heap := PySem.W.sortingHeap (PySem.W.copyHeap s.heap vs) (s.heap.objs.size + 1) vs }) er' hal hk hu
  · have er2 := er'
    exact h _ (by rw [PySem.W.sortVals_length false rfl]; exact e.length) (by
      have q := PySem.W.sortVals_data (enc := id) false e er2 (by rw [List.map_id]; exact hal)
      rw [List.map_id] at q
      exact q)
end
mutual
theorem alike_noDict : ∀ (d : D), PySem.W.alike d d = true → d.hasDict = false
  | .none, _ => by simp only [PyData.hasDict]
  | .bool _, _ => by simp only [PyData.hasDict]
  | .int _, _ => by simp only [PyData.hasDict]
  | .str _, _ => by simp only [PyData.hasDict]
  | .list xs, h => by
    simp only [PyData.hasDict]
    exact alikes_noDict xs (by simpa only [PySem.W.alike] using h)
  | .tuple xs, h => by
    simp only [PyData.hasDict]
    exact alikes_noDict xs (by simpa only [PySem.W.alike] using h)
  | .dict _, h => by simp [PySem.W.alike] at h
theorem alikes_noDict : ∀ (ds : List D), PySem.W.alikeAll ds ds = true → PyData.hasDictAll ds = false
  | [], _ => by simp only [PyData.hasDictAll]
  | d :: ds, h => by
    obtain ⟨h1, h2⟩ := PySem.W.alike_all_cons h
    simp only [PyData.hasDictAll, alike_noDict d h1, alikes_noDict ds h2, Bool.or_self]
end
/-- what sorted is served of -/
def tupB : D → Bool
  | .tuple (_ :: _) => true
  | _ => false
def notTupB : D → Bool
  | .tuple _ => false
  | .none => false
  | _ => true
def sortB (ds : List D) : Bool := (ds.all fun d => ds.all fun d' => PySem.W.alike d d') && (ds.all tupB || ds.all notTupB) && ds.all fun d => decide (d.depth ≤ 100)
theorem sortB_ok {ds : List D} (h : sortB ds = true) : PySem.W.AllAlike ds ∧ PySem.W.Sortable ds ∧ ∀ d ∈ ds, d.depth ≤ 100 := by
  unfold sortB at h
  simp only [Bool.and_eq_true, Bool.or_eq_true, List.all_eq_true, decide_eq_true_eq] at h
  obtain ⟨⟨h1, h2⟩, h3⟩ := h
  refine ⟨fun d hd d' hd' => h1 d hd d' hd', ?_, h3⟩
  rcases h2 with h2 | h2
  · refine .inl fun d hd => ?_
    have q := h2 d hd
    cases d with
    | tuple xs =>
      cases xs with
      | nil => cases q
      | cons x r =>
                                                                                                                    exact ⟨x, r, rfl⟩
    | _ => cases q
  · refine .inr fun d hd => ?_
    have q := h2 d hd
    refine ⟨fun e => ?_, fun xs e => ?_⟩
    · rw [e] at q; cases q
    · rw [e] at q; cases q
/-- the sorted list -/
def sortD (ds : List D) : List D := ds.mergeSort (PySem.W.dataLe false id)
section
variable {X : Cx} {pins : List
                                                                                                              (Addr × Obj)} {σ : L2.St} {H : Hp} {s : Shared}
theorem each_dps (I : Inv X pins σ H s) {F : Hp} (s0 : Same F H) : ∀ {xs : List V} {vs : List Value} {ds : List D}, DpAll X.K F xs ds → Vals xs vs → PyData.hasDictAll ds = false → PySem.W.EachIs (fun v d => ∃ x, RelV x v ∧ Dp X.K F x d) vs ds ∧ PySem.W.EachIs (fun v b => ∃ as, Reads s.heap v b as) vs ds
  | _, _, _, .nil, .nil, _ => ⟨.nil, .nil⟩
  | _, _, _, .cons h hs, .cons r rs, n => by
    simp only [PyData.hasDictAll, Bool.or_eq_false_iff] at n
    obtain ⟨a, b⟩ := each_dps I s0 hs rs n.2
    exact ⟨.cons ⟨_, r, h⟩ a, .cons (Dp.reads I _ _ _ ((dp_mono s0 h).l2 n.1) r) b⟩
theorem dps_each {K : PySem.W.Frag} : ∀ {vs : List Value} {ds : List D}, PySem.W.EachIs (fun v d => ∃ x, RelV x v ∧ Dp K H x d) vs ds → ∃ xs, Vals xs vs ∧ DpAll K H xs ds
  | _, _, .nil => ⟨[], .nil, .nil⟩
  | _, _, .cons ⟨x, r, h⟩ t => by
    obtain ⟨xs, a, b⟩ := dps_each t
    exact ⟨x :: xs, .cons r a, .cons h b⟩
end
section
variable {X : Cx}
def rSortD (X : Cx) : List V → Hp → VK → Prop := fun xs H Q => ∃ F a us ds, Same F H ∧ xs = [.ref a] ∧ (SqL X.K H a us ∨ SqT X.K H a us) ∧ DpAll X.K F us ds ∧ sortB ds = true ∧ ∀ p ys, H p = none → DpAll X.K F ys (sortD ds) → Q (.ref p) (upd H p (.lst ys))
theorem call_sortD (hr : RoomG 0 X.A) : CallR X (.builtin "sorted") (rSortD X) := by
  intro pins s σ H xs
  intro us Q I r h
  obtain ⟨F, a, vs, ds, s0, rfl, hq, rd, ok, q⟩ := h
  obtain ⟨al, so, dp⟩ := sortB_ok ok
  rw [Vals.ref1 r]
  have hun := hr.r.un
  have nd : PyData.hasDictAll ds = false := alikes_noDict ds (by
    have : ∀ (l : List D), (∀ d ∈ l, d ∈ ds) → PySem.W.alikeAll l l = true := by
      intro l
      induction l with
      | nil => intro _; simp [PySem.W.alikeAll]
      | cons d l ih => intro hl; rw [PySem.W.alikeAll, al d (hl d List.mem_cons_self) d (hl d List.mem_cons_self), ih fun x hx => hl x (List.mem_cons_of_mem _ hx)]; rfl
    exact this ds fun _ h => h)
  have fin : ∀ (its : List Value), Vals vs its → vs.length ≤ sizeLine → ∀ (T : String) (o : Obj) (n : Nat), T = "list" ∨ T = "tuple" → s.heap.get? a = some o → o.cls = .type T → o.data = .seq its.toArray n → wpAny (model X.prog X.w) X.A (call (.builtin "sorted") [.ref a]) (EP X pins σ Q) X.xe s := fun its rv hz T o n hT ho hc hd => by
    obtain ⟨e1, e2⟩ := each_dps I s0 rd rv nd
    have len : ds.length ≤ sizeLine := by rw [← e1.length, ← rv.length]; exact hz
    refine sorted_seq_data hT ho hc hd e1 e2 al so len (fun b hb => by have := dp b hb; omega) fun out hl eo => ?_
    obtain ⟨ys, ry, dy⟩ := dps_each eo
    obtain ⟨ep, he'⟩ := sortedAll_at s.heap its out.toArray
    have hlen : ys.length ≤ sizeLine := by rw [ry.length, hl]; exact len
    exact ⟨.ref _, upd H (s.heap.objs.size + 1) (.lst ys), I.laid (t' := s.toks) (fun _ _ => sortedAll_old) (Nat.le_succ _) ⟨hlen, out, ep, ry, he'⟩, rfl, q _ ys (I.hok.fresh (Nat.le_succ _)) dy⟩
  rcases hq with hq | hq
  · obtain ⟨its, rv, pl, hz⟩ := I.list hq
    obtain ⟨o, ho, hc,
                                                                                                                  n, hd⟩ := pl.isList
    exact fin its rv hz "list" o n (.inl rfl) ho hc hd
  · obtain ⟨its, rv, pl, hz⟩ := I.tuple hq
    obtain ⟨o, ho,
                                                                                                                  hc, n, hd⟩ := pl
    exact fin its rv hz "tuple" o n (.inr rfl) ho hc hd
def dSorted : List D → Option Sl
  | [.list ds] => if sortB ds = true then some (.own false (sortD ds)) else none
  | [.tuple ds] => if sortB ds = true then some (.own false (sortD ds)) else none
  | _ => none
theorem cv_sorted (hr : RoomG 0 X.A) : CV X (.builtin "sorted") dSorted := cv_of (call_sortD hr) fun xs H Q F as s ra k => by
  unfold dSorted at k
  split at k
  · obtain ⟨u, rfl, r⟩ := dps1 ra
    obtain ⟨a1, us, rfl, h1, r1⟩ := lst_of r
    split at k
    · rename_i ok
      exact ⟨F, a1, us, _, s, rfl, .inl (.inl (rd_mono s h1)), r1, ok, fun p ys hp ry => Kd.lst s k ry p hp⟩
    · exact k.elim
  · obtain ⟨u, rfl, r⟩ := dps1 ra
    obtain ⟨a1, us, rfl, h1, r1⟩ := tup_of r
    split at k
    · rename_i ok
      exact ⟨F, a1, us, _, s, rfl, .inr (sqT_mono s h1), r1, ok, fun p ys hp ry => Kd.lst s k ry p hp⟩
    · exact k.elim
  · exact k.elim
end
end Mv

namespace Mv
open L2 PySem.Spec PySem PyProof.Rows

/-! ### targets that are items of own lists: a[i], a[j] = x, y -/
def nxE (Q : L2.St → Hp → Prop) : Ends := ⟨Q, fun _ _ => False, fun _ _ => False, fun _ _ => False⟩
section
variable {X : Cx} {W : WX}
def tT (K : PySem.W.Frag) (mg : Str → Option Value) (B : Bs) (W : WX) (m : D → MS) : TG := fun v σ H Q => ∃ F en d, Sim K B σ en F H ∧ Dp K F v d ∧ PostS K mg B W F (nxE Q) (m d en)
def runT : List (D → MS) → List D → MS
  | [], [], e => .ok .nx e
  | m :: ms, d :: ds, e => match m d e with
    | .ok .nx e2 => runT ms ds e2
    | .ok _ _ => .bad
    | .exc c fs e2 => .exc c fs e2
    | .bad => .bad
  | _, _, _ => .bad
def tTs (K : PySem.W.Frag) (mg : Str → Option Value) (B : Bs) (W : WX) (ms : List (D → MS)) : TGs := fun vs σ H Q => ∃ F en ds, Sim K B σ en F H ∧ DpAll K F vs ds ∧ PostS K mg B W F (nxE Q) (runT ms ds en)
def VT (X : Cx) (W : WX) (e : Expr) (m : D → MS) : Prop := ∀ B, PG X e (tT X.K X.mg B W m)
def VTgs (X : Cx) (W : WX) (es : List Expr) (ms : List (D → MS)) : Prop := ∀ B, PGs X es (tTs X.K X.mg B W ms)
variable {x : Str} {p p2 pos : Pos} {e ek : Expr} {es : List Expr} {m : D → MS} {ms : List (D → MS)} {fk : M Sl}
def tNm (i : Nat) : D → MS := fun d e => .ok .nx (e.set i (.val d))
def tSub (i : Nat) (fk : M Sl) : D → MS := fun d e => ownAt i e fun _ _ => (vD fk e).bind fun k e2 => setAt i k d e2
theorem vt_nm {i : Nat} (hN : X.N.Nodup) (hi : X.N[i]? = some x := by rfl) (hx : Loc X.env.scope x := by first | exact Or.inl rfl | exact Or.inr rfl)
    (hf : X.fn x = true ∨ X.env.scope.names.lookup x = some .local := by first | exact .inl rfl | exact .inr rfl) : VT X W (.Name x pos) (tNm i) := fun B => pgWk (pg_name hN hi hx hf) fun v σ H Q ⟨F, en, d, S, r, q⟩ =>
  q _ F H (S.store (s := .val d) r) (.refl _)
theorem vt_sub {i : Nat} (hk : VE X W ek fk) (hN : X.N[i]? = some x := by rfl) (hv : Vis X.env.scope x := by first | exact Or.inl rfl | exact Or.inr (Or.inl rfl)) (hd : (x == ("__debug__" : Str)) = false := by decide)
    (hcd : (x == ("__classdict__" : Str)) = false := by decide)
    (ha : ∀ v, assign (.Subscript (.Name x p) ek p2) X.env v = (do
      let ov ← holding [v] (eval (.Name x p) X.env)
      let iv ← holding [v, ov] (eval ek X.env)
      standAt p2
      holding [v, ov,
                                                                                                                    iv] (setItem ov iv v)
      release [v, ov, iv] []) := by intro _; rfl) : VT X W (.Subscript (.Name x p) ek p2) (tSub i fk) := fun B =>
  pgWk (pg_sub (pe_var hN hv hd hcd) (hk.d B) set_list ha) fun v σ H Q ⟨F, en, d, S, rv, q1⟩ => by
    unfold tSub ownAt at q1
    split at q1
    · rename_i b0 xs0 h0
      obtain ⟨a0, vs0, e0, _⟩ := S.slotL h0
      refine ⟨_, e0, F, en, S, (PostS.bind q1).imp fun k en2 F2 H2 S2 s2 q2 y ry => ?_⟩
      obtain ⟨a, e1, z⟩ := setAt_ok S2 ry (dp_mono s2 rv) q2
      rw [e0] at e1
      cases e1
      exact z
    · exact q1.elim
theorem vtg_nil : VTgs X W [] [] := fun B => pgsWk pgs_nil fun us σ H Q ⟨F, en, ds, S, r, q⟩ => by
  cases ds with
  | nil =>
    cases r
    exact ⟨rfl, q σ F H S (.refl _)⟩
  | cons d ds => exact q.elim
theorem vtg_cons (h1 : VT X W e m) (h2 : VTgs X W es ms) (hs : (assignEach (e :: es) X.env).map (·.2) = assign e X.env :: (assignEach es X.env).map (·.2) := by rfl) : VTgs X W (e :: es) (m :: ms) := fun B =>
  pgsWk (pgs_cons (h1 B) (h2 B) hs) fun us σ H Q ⟨F, en, ds, S, r, q⟩ => by
    cases ds with
    | nil => exact q.elim
    | cons d ds =>
      cases r with
      | cons r rr =>
        refine ⟨_, _, rfl, F, en, d, S, r, ?_⟩
        unfold runT at q
        cases hm : m d en with
        | bad => rw [hm] at q; exact q.elim
        | exc c fs e2 => rw [hm] at q; exact q
        | ok f e2 =>
          rw [hm] at q
          cases f with
          | nx => exact fun σ' F' H' S' s' => ⟨F', e2, ds, S', dps_mono s' rr, PostS.up q s'⟩
          | rt _ => exact q.elim
          | bk => exact q.elim
          | ct => exact q.elim
def sParT (ms : List (D → MS)) (g : M (List D)) : MS := fun en => (g en).bind fun ds e => if ds.length = ms.length ∧ ds.length ≤ 1000 then runT ms ds e else .bad
theorem Ends.nx_only {K : PySem.W.Frag} {mg : Str → Option Value} {B : Bs} {F : Hp} {Dn : Ends} : ∀ {ms : List (D → MS)} {ds : List D} {e : En}, PostS K mg B W F Dn (runT ms ds e) → (∀ m ∈ ms, ∀ d e, (∃ e2, m d e = .ok .nx e2) ∨ (∃ c fs e2, m d e = .exc c fs e2) ∨ m d e = .bad ∨ ∃ f e2, m d e = .ok f e2) → PostS K mg B W F (nxE Dn.nx) (runT ms ds e)
  | [], [], e, h, _ => h
  | m :: ms, d :: ds, e, h, hm => by
    unfold runT at h ⊢
    cases q : m d e with
    | bad => rw [q] at h; exact h.elim
    | exc c fs e2 => rw [q] at h; exact h
    | ok f e2 =>
      rw [q] at h
      cases f with
      | nx => exact Ends.nx_only (ms := ms) (ds := ds) h fun m' h' => hm m' (List.mem_cons_of_mem _ h')
      | rt _ => exact h.elim
      | bk => exact h.elim
      | ct => exact h.elim
  | [], _ :: _, _, h, _ => h.elim
  | _ :: _, [], _, h, _ => h.elim
theorem vs_parT {ts es : List Expr} {ms : List (D → MS)} {g : M (List D)} {kt k2 : Nat} {pt pt2 : Pos} (hc : X.calm = true) (hn : VTgs X W ts ms) (ha : VDs X W es g) (hs : swapsWithSole [.Tuple ts kt pt] (.Tuple es k2 pt2) pos.line X.env = pure false := by rfl) (hw : swappedStores [.Tuple ts kt pt] (.Tuple es k2 pt2) X.env = pure none := by rfl)
    (h1 : (assignEach [.Tuple ts kt pt] X.env).map (·.2) = [assign (.Tuple ts kt pt) X.env] := by rfl) (h2 : (assignEach ts X.env).length = ms.length := by rfl) (hst : (assignEach ts X.env).findIdx? (·.1) = none := by rfl) :
    VS X W (.Assign [.Tuple ts kt pt] (.Tuple es k2 pt2) pos) (sParT ms g) := fun B =>
  psWk (ps_asg (pe_tup (ha B)) (pg_tup hc (hn B) h2 hst) hs hw h1) fun Dn σ H h => by
    obtain ⟨F, en, S, p⟩ := h
    refine ⟨F, en, S, (PostS.bind p).imp fun ds en1 F1 H1 S1 s1 q vs rvs => ?_⟩
    by_cases hl : ds.length = ms.length ∧ ds.length ≤ 1000
    · rw [if_pos hl] at q
      have len := dps_len rvs
      refine ⟨by have := hl.2; exact lim_line (by unfold LIM; omega), fun a ha => ?_⟩
      have S2 : Sim X.K B σ en1 (upd F1 a (.tup vs)) (upd H1 a (.tup vs)) := S1.gr (Gr.laid S1.sub ha)
      have ff : Same F1 (upd F1 a (.tup vs)) := (Gr.laid S1.sub ha).ff
      exact ⟨a, vs, rfl, .inl (.inl upd_same), len.trans hl.1, _, en1, ds, S2, dps_mono ff rvs, PostS.up (Ends.nx_only q fun m _ d e => by
        cases m d e with
        | ok f e2 => exact .inr (.inr (.inr ⟨f, e2, rfl⟩))
        | exc c fs e2 => exact .inr (.inl ⟨c, fs, e2, rfl⟩)
        | bad => exact .inr (.inr (.inl rfl))) ff⟩
    · rw [if_neg hl] at q
      exact q.elim

/-! ### x.pop(e) -/
def popAt (i : Nat) (k : D) (e : En) : R Sl := match e[i]? with
  | some (.own b xs) => match k with
    | .int k => match ixN xs.length k with
      | some j => match xs[j]? with
        | some d => if xs.length ≤ LIM then .ok (.val d) (e.set i (.own b (xs.eraseIdx j))) else .bad
        | none => .bad
      | none => .bad
    | _ => .bad
  | _ => .bad
def isOwnB (e : En) (i : Nat) : Bool := match e[i]? with
  | some (.own _ _) => true
  | _ => false
def vPop (i : Nat) (g : M (List D)) : M Sl := fun en => if isOwnB en i = true then (g en).bind fun ks e => match ks with
    | [k] => popAt i k e
    | _ => .bad
  else .bad
theorem dps_erase {K : PySem.W.Frag} {F : Hp} : ∀ {vs : List V} {ds : List D} (j : Nat), DpAll K F vs ds → DpAll K F (vs.eraseIdx j) (ds.eraseIdx j)
  | _, _, _, .nil => .nil
  | _, _, 0, .cons _ h => h
  | _, _, j + 1, .cons r h => .cons r (dps_erase j h)
theorem ve_pop {i : Nat} {g : M (List D)} {apos cpos : Pos} (he : VDs X W [e] g) (hN : X.N[i]? = some x := by rfl) (hv : Vis X.env.scope x := by first | exact Or.inl rfl | exact Or.inr (Or.inl rfl)) (hd : (x == ("__debug__" : Str)) = false := by decide)
    (hcd : (x == ("__classdict__" : Str)) = false := by decide)
    (hbase : attributeBase (.Name x p) "pop" X.env (eval (.Name x p) X.env) = eval (.Name x p) X.env := by rfl)
    (hfew : ((backTo cpos (starEach [e] X.env)).all (fun x => !x.1) && (backToKw cpos (keywordEach [] X.env)).all (fun x => x.1.isSome) && decide ([e].length + ([] : List Keyword).length + (if ([] : List Keyword).isEmpty then 0 else 1) < 30)) = true := by rfl)
    (hline : (apos.endLine == cpos.line) = true := by rfl) (hst : starEach [e] X.env = (false, eval e X.env) :: starEach [] X.env := by rfl) (hpl : (backTo cpos (starEach [] X.env)).any (·.1) = false := by rfl) :
    VE X W (.Call (.Attribute (.Name x p) "pop" apos) [e] [] cpos) (vPop i g) := fun B =>
  peWk (pe_bm PySem.F.plainAttrs_list PySem.F.slot_list_pop PySem.F.type_list_pop mt_popAt (pe_var hN hv hd hcd) (he B) hbase hfew hline hst hpl) fun σ H Q ⟨F, en, S, q⟩ => by
    have key : ∃ b0 xs0, en[i]? = some (.own b0 xs0) := by
      unfold vPop at q
      by_cases h : isOwnB en i = true
      · unfold isOwnB at h
        split at h
        · rename_i b0 xs0 h0
          exact ⟨b0, xs0, h0⟩
        · cases h
      · rw [if_neg h] at q
        exact q.elim
    obtain ⟨b0, xs0, h0⟩ := key
    unfold vPop at q
    rw [if_pos (by unfold isOwnB; rw [h0])] at q
    obtain ⟨a0, vs0, e0, l0, _, _⟩ := S.slotL h0
    refine ⟨_, e0, .inl ⟨rfl, vs0, .inl (.inl l0)⟩, F, en, S, (Post.bind q).imp fun ds en1 F1 H1 S1 s1 q1 us rv => ?_⟩
    split at q1
    · rename_i k
      unfold popAt at q1
      split at q1
      · rename_i b xs h1
        obtain ⟨a1, vs, e1, l1, r1, len⟩ := S1.slotL h1
        rw [e0] at e1
        cases e1
        split at q1
        · rename_i z
          split at q1
          · rename_i j hj
            split at q1
            · rename_i d hd'
              split at q1
              · rename_i hl
                cases rv with
                | cons ra rr =>
                  cases rr
                  cases ra
                  obtain ⟨h1', h2', h3', h4'⟩ := ixN_seq hj
                  have hl' : xs.length ≤ 1000000 := hl
                  obtain ⟨y, hy⟩ : ∃ y, vs[j]? = some y := ⟨vs[j]'(by rw [len]; exact h2'), List.getElem?_eq_getElem _⟩
                  refine ⟨_, vs, z, j, y, rfl, rfl, l1, by omega, by omega, by rw [len]; exact h1', hy, ?_⟩
                  exact q1 F1 _ (S1.change h1 e0 l1 (dps_erase j r1)) (.refl _) y (dps_get r1 hy hd')
              · exact q1.elim
            · exact q1.elim
          · exact q1.elim
        · exact q1.elim
      · exact q1.elim
    · exact q1.elim
end
end Mv

namespace Mv
open L2 PySem.Spec PySem PyProof.Rows
/-! ### sorted(set(xs)), xs a list of ints -/
abbrev newSet (w : World) : Obj := { cls := .type "set", dict := none, data := .set #[] 0 (.fresh 0 0 (!w.params.followText "set-order")) }
section
variable {P : Program} {w : World} {A :
                                                                                                              Around} {E : Value → Shared → Prop} {s : Shared}
set_option maxHeartbeats 3200000 in
theorem call_set_lstI {l : Addr} {items : Array Value} (ns : List Int) {Q : Value → Shared → Prop} (hh : A.handled = none) (hl : s.heap.IsList l items) (hit : IntsAre items.toList ns) (hb : ns.length + 1 < scanBound)
    (h : ∀ (h' : Heap) (tk c : Nat), SetR w h' s.heap.objs.size (fun j => decide (j ∈ ns)) c → c ≤ ns.length → (∀ b o,
                                                                                                                  s.heap.get? b = some o → h'.get? b = some o) → Q (.ref s.heap.objs.size) { s with heap := h', toks := tk }) :
    wpAny (model P w) A (call
                                                                                                                  (.type "set") [.ref l]) Q E s := by
  have hisz :
                                                                                                                items.size = ns.length := by
    have q := IntsAre.length hit
    rw [Array.length_toList] at q
    exact q
  obtain ⟨c, tl, hmro⟩ :=
                                                                                                                F.called_set.mro
  have hmade :=
                                                                                                                F.called_set.made
  have hsub := F.called_set.sub
  refine wpAny_call
                                                                                                                (codeAny_of_tree ?_)
  show wpAny _ _ (callAny
                                                                                                                (.type "set") _) _ _ _
  refine wpAny_pure ⟨Code.quiet_builtin _
                                                                                                                (by decide +kernel), codeAny_builtin F.entry_type_call ?_⟩
  rw [Around.under_plain
                                                                                                                (weight_type_call_type "set" [.ref l] []) rfl]
  have h1 :=
                                                                                                                F.called_set.notType
  have h2 :=
                                                                                                                F.called_set.canCreate
  have hct :=
                                                                                                                F.typeCall_set_1 (.ref l)
  repeat (any_goals (first |
                                                                                                                assumption | wp_step))

  refine codeAny_mono (code_set_led1 (.ref l) (E := E) (Q₁ := fun obj s₁ => obj = .ref s.heap.objs.size ∧ s₁ = { s with heap := s.heap.push (newSet w) }) ⟨rfl, rfl⟩) fun r s₁ hr => ?_
  cases r with
  | error e => exact hr
  | ok fl =>
    cases fl with
    | ret obj =>
      obtain ⟨rfl, rfl⟩ := hr
      have hS : (s.heap.push (newSet w)).get? s.heap.objs.size = some (newSet w) := Heap.get?_push_size _ rfl
      have hT : Shared.TypeIs { s with heap := s.heap.push (newSet w) } (.ref s.heap.objs.size) "set" := ⟨_, hS, rfl⟩
      have hli :=
                                                                                                                    F.called_set.init.lookup
      have hbi := F.called_set.init.bind
                                                                                                                    (.ref s.heap.objs.size)
      repeat (any_goals (first |
                                                                                                                    assumption | wp_step))

      refine codeAny_mono (codeAny_call_builtin (R := wants (fun r s₂ => r = .none ∧ ∃ h' tk c, s₂ = { s with
                                                                                                                    heap := h', toks := tk } ∧ SetR w h' s.heap.objs.size (fun j => decide (j ∈ ns)) c ∧ c ≤ ns.length ∧
          (∀ b o, s.heap.get? b = some o → h'.get? b = some o)) E) F.called_set.init.plain F.entry_set_init
                                                                                                                        (check_set_init_1 hT ?_)) fun r₂ s₂ hr₂ => ?_
      · obtain ⟨ol, hol,
                                                                                                                      hcl, nl, hdl⟩ := hl
        obtain ⟨ocls, odict,
                                                                                                                      odata, oslots⟩ := ol
        simp only at hcl hdl
        subst hcl; subst hdl
        have hol' : (s.heap.push (newSet w)).get? l = some { cls := .type "list", dict := odict, data := .seq items nl, slots := oslots } := Heap.get?_push_of_some _ hol
        have hsls := F.sub_list_set
        have hslf :=
                                                                                                                      F.sub_list_frozenset
        have hne :
                                                                                                                      (Value.type "list" == Value.type "dict") = false := by decide
        have hl1 : (s.heap.push (newSet w)).IsList l items := ⟨_, hol', rfl, nl, rfl⟩
        unfold Builtin.«set.__init__»
                                                                                                                      noKeywords Builtin.Frozenset.updateFrom
        generalize hPI : pyIter = PI
        wp_walk
        subst hPI

        refine
                                                                                                                      wpAny_pyIter_list hl1 ?_
        refine wpAny_bind
                                                                                                                      (wpAny_runValue ?_)
        have hlS : l < s.heap.objs.size :=
                                                                                                                      Heap.lt_size hol
        have hh3 :
                                                                                                                      A.in1.in1.in1.handled = none := by simp [hh]
        have hz1 : (s.heap.push (newSet w)).objs.size = s.heap.objs.size + 1 := Heap.size_push ..
        have hneI : l ≠ (s.heap.push (newSet w)).objs.size := by
          rw [Heap.size_push]; exact Nat.ne_of_lt
                                                                                                                        (Nat.lt_succ_of_lt hlS)
        have hSf : s.heap.objs.size ∉ [(s.heap.push (newSet w)).objs.size, l] := by
          rw [Heap.size_push]; simp only [List.mem_cons,
                                                                                                                        List.mem_singleton, List.not_mem_nil, or_false, not_or]
          exact ⟨Nat.ne_of_lt
                                                                                                                        (Nat.lt_succ_self _), Nat.ne_of_gt hlS⟩
        have hval : ∀ (i : Nat) (v : Value), items[i]? = some v → ∃ k t,
                                                                                                                      ns[i]? = some k ∧ v = .int k t := fun i v hv => by
          have hi : i < ns.length := by rw [← hisz];
                                                                                                                        exact (Array.getElem?_eq_some_iff.mp hv).1
          obtain ⟨t, e⟩ := PyProof.Rows.IntsAre.int_at hit i v
                                                                                                                        (by rw [Array.getElem?_toList]; exact hv)
          refine ⟨ns[i], t,
                                                                                                                        List.getElem?_eq_getElem hi, ?_⟩
          rw [e, List.getD_eq_getElem?_getD,
                                                                                                                        List.getElem?_eq_getElem hi] <;> rfl
        refine set_update_ints ((Walks.list hh3 _ l hneI items).toS) s.heap.objs.size
          hSf ns hisz hb hval (items.size - 0) 0 _
                                                                                                                        (by omega) (Nat.zero_le _)
          ⟨⟨_, Heap.get?_push_size _ rfl,
                                                                                                                        rfl, rfl⟩, (hl1.push _)⟩ ?hS0 ?hR
        case hS0 =>
          have hget : ((s.heap.push (newSet w)).push { cls := .type "list_iterator", data := .fields #[.ref l, .int 0 0] }).get? s.heap.objs.size
              = some (newSet w) := Heap.get?_push_of_some _ hS
          exact ⟨0, Nat.le_refl 0,
                                                                                                                        setR_new_at hget⟩
        case hR =>
          intro s' c' hm hc' hS'
          obtain ⟨h', g2,
                                                                                                                        d', tk', os'⟩ := s'
          have eg :
                                                                                                                        g2 = s.gens := hm.gens
          have ed :
                                                                                                                        d' = s.drawn := hm.drawn
          have eo : os' = s.os := hm.os
          subst eg; subst ed; subst eo
          show wpAny _ _ _ _ _ _
          refine wpAny_pure ?_
          show wpAny _ _
                                                                                                                        (ret Value.none) _ _ _
          rw [hisz] at hc'
          refine wpAny_pure ⟨rfl, h', tk',
                                                                                                                        c', rfl, hS', hc', fun b o e => ?_⟩
          have hb0 : b < s.heap.objs.size :=
                                                                                                                        Heap.lt_size e
          have hb1 : b ≠ s.heap.objs.size :=
                                                                                                                        Nat.ne_of_lt hb0
          have hb2 : b ≠ (s.heap.push (newSet w)).objs.size := by
            rw [Heap.size_push]; exact Nat.ne_of_lt
                                                                                                                          (Nat.lt_succ_of_lt hb0)
          exact hm.heap b o (by simp only [List.mem_cons, List.mem_singleton, List.not_mem_nil,
                                                                                                                        or_false, not_or]; exact ⟨hb1, hb2⟩) (Heap.get?_push_of_some _ (Heap.get?_push_of_some _ e))

      · cases r₂ with
        | error e => exact hr₂
        | ok fl₂ =>
          cases fl₂ with
          | ret r =>
            obtain ⟨rfl, h', tk, c',
                                                                                                                          rfl, hS', hc', hk'⟩ := hr₂
            repeat (any_goals (first |
                                                                                                                          assumption | wp_step))
            exact h _ _ _ hS' hc' hk'
          | _ => exact hr₂.elim
    | _ => exact hr.elim
end

/-- the members once, in order -/
def dedup : List Int → List Int
  | [] => []
  | n :: ns => if n ∈ ns then dedup ns else n :: dedup ns
theorem mem_dedup {k : Int} : ∀ {ns : List Int}, k ∈ dedup ns ↔ k ∈ ns
  | [] => Iff.rfl
  | n :: ns => by
    unfold dedup
    split
    · rename_i h
      rw [mem_dedup, List.mem_cons]
      exact ⟨.inr, fun z => z.elim (fun e => e ▸ h) id⟩
    · rw [List.mem_cons, List.mem_cons, mem_dedup]
theorem nodup_dedup : ∀ ns : List Int, (dedup ns).Nodup
  | [] => List.Pairwise.nil
  | n :: ns => by
    unfold dedup
    split
    · exact nodup_dedup ns
    · rename_i h
      exact List.nodup_cons.mpr ⟨fun z => h (mem_dedup.mp z), nodup_dedup ns⟩
def sortSet (ns : List Int) : List Int := (dedup ns).mergeSort fun a b => decide (a ≤ b)
theorem sortSet_mem (ns : List Int) (k : Int) : k ∈ sortSet ns ↔ k ∈ ns := by
  unfold sortSet
  rw [List.mem_mergeSort, mem_dedup]
theorem sortSet_le (ns : List Int) : (sortSet ns).Pairwise (· ≤ ·) := by
  have h := List.pairwise_mergeSort (le := fun a b : Int => decide (a ≤ b)) (fun a b c h1 h2 => by simp only [decide_eq_true_eq] at *; omega) (fun a b => by simp only [Bool.or_eq_true, decide_eq_true_eq]; omega) (dedup ns)
  exact h.imp fun h => of_decide_eq_true h
theorem sortSet_nodup (ns : List Int) : (sortSet ns).Nodup := (List.mergeSort_perm _ _).nodup_iff.mpr (nodup_dedup ns)
theorem sortSet_lt (ns : List Int) : (sortSet ns).Pairwise (· < ·) := (sortSet_le ns).imp₂ (fun a b h1 h2 => by have h2 : a ≠ b := h2; omega) (sortSet_nodup ns)
theorem strict_eq : ∀ {xs ys : List Int}, xs.Pairwise (· < ·) → ys.Pairwise (· < ·) → (∀ k, k ∈ xs ↔ k ∈ ys) → xs = ys
  | [], [], _, _, _ => rfl
  | [], y :: ys, _, _, h => by have := (h y).mpr List.mem_cons_self; cases this
  | x :: xs, [], _, _, h => by have := (h x).mp List.mem_cons_self; cases this
  | x :: xs, y :: ys, h1, h2, h => by
    obtain ⟨a1, a2⟩ := List.pairwise_cons.mp h1
    obtain ⟨b1, b2⟩ := List.pairwise_cons.mp h2
    have e : x = y := by
      rcases List.mem_cons.mp ((h x).mp List.mem_cons_self) with e | e
      · exact e
      · rcases List.mem_cons.mp ((h y).mpr List.mem_cons_self) with e2 | e2
        · exact e2.symm
        · have := b1 _ e
          have := a1 _ e2
          omega
    subst e
    rw [strict_eq a2 b2 fun k => ?_]
    constructor
    · intro hk
      rcases List.mem_cons.mp ((h k).mp (List.mem_cons_of_mem _ hk)) with e | e
      · have := a1 _ hk; omega
      · exact e
    · intro hk
      rcases List.mem_cons.mp ((h k).mpr (List.mem_cons_of_mem _ hk)) with e | e
      · have := b1 _ hk; omega
      · exact e
section
variable {X : Cx} {W : WX} {a : Expr} {p p2 q pos : Pos} {f : M Sl}
theorem vals_one {x : V} {u : Value} (r : RelV x u) : Vals [x] [u] := .cons r .nil
def tSortSet (K : PySem.W.Frag) (ta : TE) : TE := fun σ H Q => ta σ H fun x H1 => ∃ (l : Addr) (ns : List Int), x = V.ref l ∧ SqL K H1 l (ns.map V.int) ∧ ns.length < 64 ∧ ∀ b p, H1 b = none → ∀ S, (upd H1 b S) p = none → Q (.ref p) (upd (upd H1 b S) p (.lst ((sortSet ns).map V.int)))
theorem pe_sortSet {ta : TE} (hc : X.calm = true) (hg : Gl X "sorted") (hm : X.mg "sorted" = none) (hg2 : Gl X "set") (hm2 : X.mg "set" = none) (ha : PE X a ta)
    (na : starEach [a] X.env = (false, eval a X.env) :: starEach [] X.env := by rfl) : PE X (.Call (.Name "sorted" p) [.Call (.Name "set" p2) [a] [] q] [] pos) (tSortSet X.K ta) := by
  refine ⟨fun pins s σ H Q I h =>
                                                                                                                ?_⟩
  refine Call_ (ld_blt I hg hm PyProof.Rows.boot_sorted ?_)
  refine PyProof.Rows.callWith_builtin1
                                                                                                                (PyProof.Rows.args_cons ?_ rfl) rfl rfl
  refine Call_
                                                                                                                (ld_blt I hg2 hm2 PyProof.Rows.boot_set ?_)
  refine PyProof.Rows.callWith_type1 (PyProof.Rows.args_cons (thn
                                                                                                                (ha.run pins s σ H _ I h) fun v s1 ⟨x, H1, I1, r1, q1⟩ => PyProof.Rows.args_nil ?_) na) na rfl
  obtain ⟨l, ns, rfl, hq, h1, q1⟩ := q1
  cases r1
  obtain ⟨its, r,
                                                                                                                pl, hz⟩ := I1.list hq
  have hn : H1 s1.heap.objs.size = none := I1.hok.fresh (Nat.le_refl _)
  refine call_set_lstI ns (I1.ok.hd hc) pl.isList (by simpa using r.ints) (by unfold scanBound; omega) fun h' tk c hS hcl hk => ?_
  have I2 : Inv X pins σ (upd H1 s1.heap.objs.size (SetO X.w s1.heap.objs.size (fun j => decide (j ∈ ns)) c)) { s1 with heap := h', toks := tk } :=
    I1.laid (t' := tk) hk (Nat.le_refl _) (setO_new hS)
  refine
                                                                                                                PyProof.Rows.args_nil ?_
  refine cr_sortedSet hc pins _ σ _ [V.ref s1.heap.objs.size] [Value.ref s1.heap.objs.size] Q I2 (vals_one rfl) ⟨_, _, c, rfl, upd_same, by omega, fun ms p hlt hmem hlen hp => ?_⟩
  have e : ms = sortSet ns := strict_eq hlt (sortSet_lt ns) fun k => (hmem k).trans ((by simp : decide (k ∈ ns) = true ↔ k ∈ ns).trans (sortSet_mem ns k).symm)
  subst e
  exact q1 _ p hn _ hp
def vSortSet (f : M Sl) : M Sl := fun en => (vD f en).bind fun d e => match d with
  | .list ds => match intsOf ds with
    | some ns => if ns.length < 64 then .ok (.own false ((sortSet ns).map PyData.int)) e else .bad
    | none => .bad
  | _ => .bad
theorem dps_of_ints {K : PySem.W.Frag} {F : Hp} : ∀ (ns : List Int), DpAll K F (ns.map V.int) (ns.map PyData.int)
  | [] => .nil
  | n :: ns => .cons (.int n) (dps_of_ints ns)
theorem ve_sortSet (hc : X.calm = true) (hg : Gl X "sorted") (hm : X.mg "sorted" = none) (hg2 : Gl X "set") (hm2 : X.mg "set" = none) (ha : VE X W a f)
    (na : starEach [a] X.env = (false, eval a X.env) :: starEach [] X.env := by rfl) : VE X W (.Call (.Name "sorted" p) [.Call (.Name "set" p2) [a] [] q] [] pos) (vSortSet f) := fun B =>
  peWk (pe_sortSet hc hg hm hg2 hm2 (ha.d B) na) fun σ H Q ⟨F, en, S, q⟩ => by
    refine ⟨F, en, S, (Post.bind q).imp fun d en1 F1 H1 S1 s1 q1 v rv => ?_⟩
    split at q1
    · rename_i ds
      split at q1
      · rename_i ns hns
        split at q1
        · rename_i hl
          obtain ⟨a1, us, rfl, h1, r1⟩ := lst_of rv
          rw [intsOf_some hns] at r1
          rw [dps_ints r1] at h1
          refine ⟨a1, ns, rfl, .inl (rd_mono S1.sub h1), hl, fun b p hb So hp => ?_⟩
          have g1 : Gr F1 H1 F1 (upd H1 b So) := Gr.made S1.sub hb
          have S2 := S1.gr g1
          have g2 : Gr F1 (upd H1 b So) F1 (upd (upd H1 b So) p (.lst ((sortSet ns).map V.int))) := Gr.made S2.sub hp
          exact q1 F1 _ (S2.gr g2) (.refl _) _ (S2.res (r := .own false _) ⟨rfl, p, _, rfl, upd_same, S2.sub.free hp, dps_of_ints _, hp⟩)
        · exact q1.elim
      · exact q1.elim
    · exact q1.elim
end
end Mv

namespace Mv
open L2 PySem.Spec PySem PyProof.Rows

/-! ### comprehensions of two sources -/
def tI2 (K : PySem.W.Frag) (mg : Str → Option Value) (B : Bs) (W : WX) (f : M (List D)) : TI := fun σ H R => ∃ F en, Sim K B σ en F H ∧ Post K mg B W σ F (fun ds _ F' H' => ∀ J, (∀ Fk, Wk K Fk F' J ds) → R J H') (f en)
def VI2 (X : Cx) (W : WX) (tg e : Expr) (f : M (List D)) : Prop := ∀ B, PI X tg e (tI2 X.K X.mg B W f)
section
variable {X : Cx} {W : WX} {tg e a b : Expr} {f : M Sl} {g : M (List D)} {p pos : Pos}
theorem wi2_seq (h : VE X W e f) : VI2 X W tg e (vItems f) := fun B => piWk (pi_seq (h.d B)) fun σ H R ⟨F, en, S, p⟩ => by
  refine ⟨F, en, S, (Post.bind p).imp fun d en1 F1 H1 S1 s1 q v rv => ?_⟩
  cases d with
  | list ds =>
    cases rv with
    | lst h1 h2 => exact .inl ⟨_, _, rfl, S1.sub.seq (.inl h1), q F1 H1 S1 (.refl _) _ fun _ => wk_list (.inl h1) h2⟩
  | tuple ds =>
    cases rv with
    | tup h1 h2 => exact .inr (.inl ⟨_, _, rfl, sqT_mono S1.sub h1, q F1 H1 S1 (.refl _) _ fun _ => wk_tup h1 h2⟩)
  | str z =>
    cases rv
    exact .inr (.inr ⟨z, rfl, q F1 H1 S1 (.refl _) _ fun _ => wk_str⟩)
  | _ => exact q.elim
theorem wi2_range1 (hg : Gl X "range") (hm : X.mg "range" = none) (ha : VDs X W [a] g) (hs : starEach [a] X.env = [(false, eval a X.env)] := by rfl) : VI2 X W tg (.Call (.Name "range" p) [a] [] pos) (vRng1 g) := fun B => piWk (pi_range1 hg hm (ha B) hs) fun σ H R ⟨F, en, S, p⟩ => by
  refine ⟨F, en, S, (Post.bind p).imp fun ds en1 F1 H1 S1 s1 q vs rv => ?_⟩
  unfold rngR at q
  split at q
  · rename_i j
    cases rv with
    | cons r rr =>
      cases rr
      cases r
      split at q
      · rename_i hj
        exact ⟨j, rfl, by omega, by omega, q F1 H1 S1 (.refl _) _ fun _ => wk_rng⟩
      · exact q.elim
  · exact q.elim
theorem wi2_range2 (hg : Gl X "range") (hm : X.mg "range" = none) (ha : VDs X W [a, b] g) (hs : starEach [a, b] X.env = [(false, eval a X.env), (false, eval b X.env)] := by rfl) (hs2 : starEach [b] X.env = [(false, eval b X.env)] := by rfl) : VI2 X W tg (.Call (.Name "range" p) [a, b] [] pos) (vRng2 g) := fun B => piWk (pi_range2 hg hm (ha B) hs hs2) fun σ H R ⟨F, en, S, p⟩ => by
  refine ⟨F, en, S, (Post.bind p).imp fun ds en1 F1 H1 S1 s1 q vs rv => ?_⟩
  split at q
  · rename_i i j
    cases rv with
    | cons r rr =>
      cases rr with
      | cons r' rr =>
        cases rr
        cases r
        cases r'
        split at q
        · rename_i hj
          exact ⟨i, j, rfl, by omega, q F1 H1 S1 (.refl _) _ fun _ => wk_rng⟩
        · exact q.elim
  · exact q.elim
end
def lcL2 (pat : D → En → Option En) (tt : M Bool) (it1 : M (List D)) (pat1 : D → En → Option En) (tt1 : M Bool) (el : M Sl) (vs vs1 : List Nat) : List D → En → R (List D)
  | [], e => .ok [] e
  | d :: ds, e => match pat d e with
    | none => .bad
    | some e1 => (noX (tt e1)).bind fun b e2 => if b = true then (noX (it1 e2)).bind fun xs1 e3 => (lcL pat1 tt1 el vs1 xs1 (wipeE e3 vs1)).bind fun ys e4 => (lcL2 pat tt it1 pat1 tt1 el vs vs1 ds (wipeE e4 vs)).bind fun zs e5 => .ok (ys ++ zs) e5
      else lcL2 pat tt it1 pat1 tt1 el vs vs1 ds (wipeE e2 vs)
def vLc2 (it : M (List D)) (pat : D → En → Option En) (tt : M Bool) (it1 : M (List D)) (pat1 : D → En → Option En) (tt1 : M Bool) (el : M Sl) (vs vs1 : List Nat) : M Sl := fun en => (it en).bind fun xs e => if noOwn e vs = true then
  (match lcL2 pat tt it1 pat1 tt1 el vs vs1 xs (wipeE e vs) with
    | .ok ys e' => if ys.length ≤ LIM then .ok (.own false ys) (backE e' e vs) else .bad
    | _ => .bad) else .bad
theorem wipe_sub {σ : L2.St} {vs vs1 : List Nat} (h : ∀ i ∈ vs1, i ∈ vs) : wipe (wipe σ vs1) vs = wipe σ vs := by
  refine List.ext_getElem? fun i => ?_
  by_cases hi : i ∈ vs
  · rw [wipe_at2 hi, wipe_at2 hi, wipe_length]
  · rw [wipe_getN hi, wipe_getN hi, wipe_getN fun z => hi (h i z)]
theorem same_none (H : Hp) : Same (fun _ => none) H := fun _ _ e => by cases e
section
variable {it it1 : M (List D)} {pat pat1 : D → En → Option En} {tt tt1 : M Bool} {el : M Sl}
theorem rd_lc2 {K : PySem.W.Frag} {mg : Str → Option Value} {B : Bs} {W : WX} {vs vs1 : List Nat} {wi wi1 : TI} {g g1 : TG} {tb tb1 : TT} {te : TE} {σ : L2.St} {H : Hp} {Q : VK} (hsub : ∀ i ∈ vs1, i ∈ vs)
    (hwi : ∀ R, tI K mg B W it σ H R → wi σ H R) (hg : ∀ B v σ H Q, tG K B vs pat v σ H Q → g v σ H Q) (ht : ∀ B σ H Q, tBl K mg B W0 tt σ H Q → tb σ H Q)
    (hwi1 : ∀ B σ H R, tI2 K mg B W0 it1 σ H R → wi1 σ H R) (hg1 : ∀ B v σ H Q, tG K B vs1 pat1 v σ H Q → g1 v σ H Q) (ht1 : ∀ B σ H Q, tBl K mg B W0 tt1 σ H Q → tb1 σ H Q) (he : ∀ B σ H Q, tD K mg B W0 (vD el) σ H Q → te σ H Q)
    (h : tV K mg B W (vLc2 it pat tt it1 pat1 tt1 el vs vs1) σ H Q) : tLc2 wi g tb wi1 g1 tb1 te vs vs1 σ H Q := by
  obtain ⟨F, en, S, p⟩ := h
  refine hwi _ ⟨F, en, S, (Post.bind p).imp fun xs en1 F1 H1 S1 s1 q J wk Dd hD => ?_⟩
  obtain ⟨G, Y, wlk, hG, hY⟩ := wk
  split at q
  · rename_i hno
    have hF1 : F1 Dd = none := S1.sub.free hD
    have hKD : B.Kp Dd = none := S1.kp.free hD
    have hZD : ¬ B.Z Dd := fun z => S1.z Dd z hD
    cases hr : lcL2 pat tt it1 pat1 tt1 el vs vs1 xs (wipeE en1 vs) with
    | exc c fs e => rw [hr] at q; exact q.elim
    | bad => rw [hr] at q; exact q.elim
    | ok YS E' =>
      rw [hr] at q
      dsimp only at q
      split at q
      case isFalse => exact q.elim
      rename_i hlim
      let Pv : Nat → Hp → Prop := fun i H2 => ∃ F2 en2 acc accD ys, Sim K (B.more F1 Dd acc) (wipe σ vs) en2 F2 H2 ∧ DpAll K F2 acc accD ∧ lcL2 pat tt it1 pat1 tt1 el vs vs1 (xs.drop i) en2 = .ok ys E' ∧ accD ++ ys = YS
      have h0 : Pv 0 (upd H1 Dd (.lst [])) := by
        refine ⟨F1, wipeE en1 vs, [], [], YS, ?_, .nil, by rw [List.drop_zero]; exact hr, rfl⟩
        have S2 := (S1.gr (Gr.made (o := .lst []) S1.sub hD)).wiped vs
        refine S2.under (.refl _) (fun c o e => .inl e) upd_same fun i hi e => ?_
        obtain ⟨b, zs, hi⟩ := hi
        obtain ⟨c, ws, e1, e2, _⟩ := (S1.wiped vs).own i b zs hi
        rw [e] at e1; cases e1
        rw [hD] at e2; cases e2
      refine ⟨fun i m H2 => m = xs.length - i ∧ i ≤ xs.length ∧ Pv i H2, ⟨xs.length, by simp, Nat.zero_le _, h0⟩, ?_⟩
      rintro i m H2 ⟨rfl, hi, pv⟩
      have hGi : G H2 := by
        obtain ⟨F2, en2, acc, accD, ys, S2, _⟩ := pv
        exact hG F2 H2 S2.f0 S2.sub ((same_upd hKD).trans S2.kp)
      by_cases hlt : i < xs.length
      · refine .inr ⟨wlk.goes i H2 hlt hGi, Pv (i + 1), fun H' p' => ⟨xs.length - (i + 1), by omega, rfl, hlt, p'⟩, fun x H3 y => ?_⟩
        have y := wlk.yields i H2 x H3 hlt hGi y
        obtain ⟨F2, en2, acc, accD, ys, S2, ra, hl, hys⟩ := pv
        obtain ⟨F3, gr, d, hd, dv⟩ := hY i F2 H2 x H3 hlt S2.f0 S2.sub ((same_upd hKD).trans S2.kp) y
        have e1 : xs.drop i = d :: xs.drop (i + 1) := by
          rw [(List.drop_eq_getElem_cons hlt)]
          rw [List.getElem?_eq_getElem hlt] at hd
          rw [Option.some.inj hd]
        rw [e1] at hl
        unfold lcL2 at hl
        have S3 := S2.gr gr
        cases hpt : pat d en2 with
        | none => rw [hpt] at hl; cases hl
        | some e3 =>
          rw [hpt] at hl
          dsimp only at hl
          refine hg _ x _ _ _ ⟨F3, en2, d, S3, dv, e3, hpt, fun σ4 S4 w4 => ⟨w4.trans (wipe_wipe σ vs), ?_⟩⟩
          have w5 : wipe σ4 vs = wipe σ vs := w4.trans (wipe_wipe σ vs)
          refine ht (B.more F1 Dd acc) σ4 H3 _ ⟨F3, e3, S4, ?_⟩
          cases hb : tt e3 with
          | exc c fs e => rw [hb] at hl; cases hl
          | bad => rw [hb] at hl; cases hl
          | ok b e4 =>
            rw [hb] at hl
            simp only [noX_ok, R.bind_ok] at hl
            intro F5 H5 S5 s5
            cases b with
            | false =>
              rw [if_neg Bool.false_ne_true] at hl ⊢
              have S6 := S5.wiped vs
              rw [w5] at S6
              exact ⟨F5, wipeE e4 vs, acc, accD, ys, S6, dps_mono (gr.ff.trans s5) ra, hl, hys⟩
            | true =>
              rw [if_pos rfl] at hl ⊢
              refine hwi1 (B.more F1 Dd acc) σ4 H5 _ ⟨F5, e4, S5, ?_⟩
              cases hi1 : it1 e4 with
              | exc c fs e => rw [hi1] at hl; cases hl
              | bad => rw [hi1] at hl; cases hl
              | ok xs1 e5 =>
                rw [hi1] at hl
                simp only [noX_ok, R.bind_ok] at hl
                intro F6 H6 S6 s6 J1 wk1
                cases hin : lcL pat1 tt1 el vs1 xs1 (wipeE e5 vs1) with
                | exc c fs e => rw [hin] at hl; cases hl
                | bad => rw [hin] at hl; cases hl
                | ok ysI E1 =>
                  rw [hin] at hl
                  simp only [R.bind_ok] at hl
                  cases hrest : lcL2 pat tt it1 pat1 tt1 el vs vs1 (xs.drop (i + 1)) (wipeE E1 vs) with
                  | exc c fs e => rw [hrest] at hl; cases hl
                  | bad => rw [hrest] at hl; cases hl
                  | ok zs E2 =>
                    rw [hrest] at hl
                    simp only [R.bind_ok, R.ok.injEq] at hl
                    obtain ⟨rfl, rfl⟩ := hl
                    obtain ⟨G1, Y1, wlk1, hG1, hY1⟩ := wk1 fun _ => none
                    let Pv1 : Nat → Hp → Prop := fun j H7 => ∃ F7 en7 acc7 accD7 ys7, Sim K (B.more F1 Dd acc7) (wipe σ4 vs1) en7 F7 H7 ∧ Same F6 F7 ∧ DpAll K F7 acc7 accD7 ∧ lcL pat1 tt1 el vs1 (xs1.drop j) en7 = .ok ys7 E1 ∧ accD7 ++ (ys7 ++ zs) = YS
                    have h1 : Pv1 0 H6 := ⟨F6, wipeE e5 vs1, acc, accD, ysI, S6.wiped vs1, .refl _, dps_mono ((gr.ff.trans s5).trans s6) ra, by rw [List.drop_zero]; exact hin, hys⟩
                    refine ⟨fun j m H7 => m = xs1.length - j ∧ j ≤ xs1.length ∧ Pv1 j H7, ⟨xs1.length, by simp, Nat.zero_le _, h1⟩, ?_⟩
                    rintro j m H7 ⟨rfl, hj, pv1⟩
                    have hGj : G1 H7 := by
                      obtain ⟨F7, en7, acc7, accD7, ys7, S7, f7, _⟩ := pv1
                      exact hG1 F7 H7 f7 S7.sub (same_none _)
                    by_cases hlt1 : j < xs1.length
                    · refine .inr ⟨wlk1.goes j H7 hlt1 hGj, Pv1 (j + 1), fun H' p' => ⟨xs1.length - (j + 1), by omega, rfl, hlt1, p'⟩, fun x1 H8 y1 => ?_⟩
                      have y1 := wlk1.yields j H7 x1 H8 hlt1 hGj y1
                      obtain ⟨F7, en7, acc7, accD7, ys7, S7, f7, ra7, hl7, hys7⟩ := pv1
                      obtain ⟨F8, gr8, d8, hd8, dv8⟩ := hY1 j F7 H7 x1 H8 hlt1 f7 S7.sub (same_none _) y1
                      have e8 : xs1.drop j = d8 :: xs1.drop (j + 1) := by
                        rw [List.drop_eq_getElem_cons hlt1]
                        rw [List.getElem?_eq_getElem hlt1] at hd8
                        rw [Option.some.inj hd8]
                      rw [e8] at hl7
                      unfold lcL at hl7
                      have S8 := S7.gr gr8
                      cases hpt8 : pat1 d8 en7 with
                      | none => rw [hpt8] at hl7; cases hl7
                      | some e9 =>
                        rw [hpt8] at hl7
                        dsimp only at hl7
                        refine hg1 _ x1 _ _ _ ⟨F8, en7, d8, S8, dv8, e9, hpt8, fun σ9 S9 w9 => ⟨w9.trans (wipe_wipe σ4 vs1), ?_⟩⟩
                        have w10 : wipe σ9 vs1 = wipe σ4 vs1 := w9.trans (wipe_wipe σ4 vs1)
                        refine ht1 (B.more F1 Dd acc7) σ9 H8 _ ⟨F8, e9, S9, ?_⟩
                        cases hb8 : tt1 e9 with
                        | exc c fs e => rw [hb8] at hl7; cases hl7
                        | bad => rw [hb8] at hl7; cases hl7
                        | ok b8 e10 =>
                          rw [hb8] at hl7
                          simp only [noX_ok, R.bind_ok] at hl7
                          intro F10 H10 S10 s10
                          cases b8 with
                          | false =>
                            rw [if_neg Bool.false_ne_true] at hl7 ⊢
                            have S11 := S10.wiped vs1
                            rw [w10] at S11
                            exact ⟨F10, wipeE e10 vs1, acc7, accD7, ys7, S11, (f7.trans gr8.ff).trans s10, dps_mono (gr8.ff.trans s10) ra7, hl7, hys7⟩
                          | true =>
                            rw [if_pos rfl] at hl7 ⊢
                            refine he (B.more F1 Dd acc7) σ9 H10 _ ⟨F10, e10, S10, ?_⟩
                            cases hel : vD el e10 with
                            | exc c fs e => rw [hel] at hl7; cases hl7
                            | bad => rw [hel] at hl7; cases hl7
                            | ok y11 e11 =>
                              rw [hel] at hl7
                              simp only [noX_ok, R.bind_ok] at hl7
                              intro F11 H11 S11 s11 v11 r11
                              cases hrest1 : lcL pat1 tt1 el vs1 (xs1.drop (j + 1)) (wipeE e11 vs1) with
                              | exc c fs e => rw [hrest1] at hl7; cases hl7
                              | bad => rw [hrest1] at hl7; cases hl7
                              | ok ys12 E12 =>
                                rw [hrest1] at hl7
                                simp only [R.bind_ok, R.ok.injEq] at hl7
                                obtain ⟨rfl, rfl⟩ := hl7
                                obtain ⟨S12, hD12, hF12, hn12⟩ := S11.outer (h0 := S1.f0) (h0n := S1.new) hKD hF1
                                have hlen : acc7.length = accD7.length := dps_len ra7
                                have htot : accD7.length < YS.length := by
                                  rw [← hys7, List.length_append, List.length_append, List.length_cons]
                                  omega
                                refine ⟨acc7, hD12, by rw [hlen]; exact lim_lt (by omega), F11, wipeE e11 vs1, acc7 ++ [v11], accD7 ++ [y11], ys12, ?_, ((f7.trans gr8.ff).trans s10).trans s11, dps_app (dps_mono (gr8.ff.trans (s10.trans s11)) ra7) (dps_one r11), hrest1, by rw [List.append_assoc]; exact hys7⟩
                                have S13 : Sim K B σ9 e11 F11 (upd H11 Dd (.lst (acc7 ++ [v11]))) := by
                                  refine ⟨S12.len, same_upd2 S12.sub hF12, S12.f0, S12.new, same_upd2 S12.kp hKD, fun c z => ?_, S12.val, fun k b zs hk => ?_, S12.apart⟩
                                  · rw [upd_ne (fun (e : c = Dd) => hZD (by rw [← e]; exact z))]; exact S12.z c z
                                  · obtain ⟨c, ws, q1, q2, q3⟩ := S12.own k b zs hk
                                    refine ⟨c, ws, q1, ?_, q3⟩
                                    rw [upd_ne (fun (e : c = Dd) => hn12 k ⟨_, _, hk⟩ (by rw [← e]; exact q1))]
                                    exact q2
                                have S14 := S13.wiped vs1
                                rw [w10] at S14
                                refine S14.under S11.f0 (fun c o e => ?_) upd_same fun k hk e => ?_
                                · rcases S11.new c o e with z | z
                                  · exact .inl z
                                  · exact .inr ⟨fun w => z (.inl w), fun w => z (.inr w)⟩
                                · obtain ⟨b, zs, hk⟩ := hk
                                  have hkv : k ∉ vs1 := fun m => by
                                    have := wipeE_at m hk
                                    cases this
                                  rw [wipeE_get hkv] at hk
                                  rw [← w10, wipe_getN hkv] at e
                                  exact hn12 k ⟨_, _, hk⟩ e
                    · have ej : j = xs1.length := by omega
                      subst ej
                      refine .inl ⟨wlk1.stops H7 hGj, ?_⟩
                      obtain ⟨F7, en7, acc7, accD7, ys7, S7, f7, ra7, hl7, hys7⟩ := pv1
                      rw [List.drop_length] at hl7
                      unfold lcL at hl7
                      simp only [R.ok.injEq] at hl7
                      obtain ⟨rfl, rfl⟩ := hl7
                      have S8 := S7.wiped vs
                      rw [wipe_sub hsub, w5] at S8
                      exact ⟨F7, wipeE en7 vs, acc7, accD7, zs, S8, ra7, hrest, hys7⟩
      · have e :
                                                                                                                      i = xs.length := by omega
        subst e
        refine .inl ⟨wlk.stops H2 hGi, ?_⟩
        obtain ⟨F2, en2, acc, accD, ys, S2, ra, hl, hys⟩ := pv
        rw [List.drop_length] at hl
        unfold lcL2 at hl
        simp only [R.ok.injEq] at hl
        obtain ⟨rfl, rfl⟩ := hl
        rw [List.append_nil] at hys
        subst hys
        obtain ⟨S3, hD3, hF3, hn3⟩ := S2.outer (h0 := S1.f0) (h0n := S1.new) hKD hF1
        have S4 : Sim K B σ (backE en2 en1 vs) F2 H2 := S3.back S1.len (noOwn_ok hno) fun i hi d hd => by
          obtain ⟨v, q1, q2⟩ := S1.val i d hd
          exact ⟨v, q1, dp_mono S2.f0 q2⟩
        refine q F2 H2 S4 S2.f0 (.ref Dd) ⟨rfl, Dd, acc, rfl, hD3, hF3, ra, hKD, hZD, fun i hi e => ?_⟩
        obtain ⟨b, zs, hi⟩ := hi
        by_cases hiv : i ∈ vs
        · have z := backE_at hiv hi
          refine noOwn_ok hno i hiv ⟨b, zs, ?_⟩
          rw [List.getD_eq_getElem?_getD] at z
          cases q5 : en1[i]? with
          | none => rw [q5] at z; cases z
          | some t => rw [q5] at z; rw [z]; rfl
        · rw [backE_get hiv] at hi
          rw [← wipe_getN hiv] at e
          exact hn3 i ⟨_, _, hi⟩ e
  · exact q.elim
end

section
variable {X : Cx} {W : WX} {elt tg iter tg1 iter1 : Expr} {ifs ifs1 : List Expr} {scope : Scope} {own : List (Str × Nat)} {vs1 : List Nat} {pos : Pos} {it it1 : M (List D)} {pat pat1 : D → En → Option En} {tt tt1 : M Bool} {el : M Sl}
theorem piBlk {sh : Shared} {Hq : Hp} {ce : Env} {fp : List Addr} {tg e : Expr} {f : M (List D)} (h : VI2 (X.blk sh Hq scope ce fp) W0 tg e f) : PI (X.blk sh Hq scope ce fp) tg e (fun σ H R => ∃ B, tI2 X.K X.mg B W0 f σ H R) := ⟨fun pins s σ H R I ⟨B, q⟩ => (h B).run pins s σ H R I q⟩
theorem ve_lc2 (own : List (Str × Nat)) (hc : X.calm = true) (hN : X.N.Nodup) (ok : BlkOk X.N X.env.scope scope own) (hv : ∀ i ∈ vs1, i ∈ own.map (·.2)) (hi : VI X W tg iter it)
    (hg : ∀ (s : Shared) (H : Hp) (C : Addr) (cl : List (Str × Addr)) (fp : List Addr), VG (X.blk s H scope (compEnvC scope cl C X.env) fp) tg (own.map (·.2)) pat)
    (ht : ∀ (s : Shared) (H : Hp) (C : Addr) (cl : List (Str × Addr)) (fp : List Addr), VTs (X.blk s H scope (compEnvC scope cl C X.env) fp) W0 ifs tt)
    (hi1 : ∀ (s : Shared) (H : Hp) (C : Addr) (cl : List (Str × Addr)) (fp : List Addr), VI2 (X.blk s H scope (compEnvC scope cl C X.env) fp) W0 tg1 iter1 it1)
    (hg1 : ∀ (s : Shared) (H : Hp) (C : Addr) (cl : List (Str × Addr)) (fp : List Addr), VG (X.blk s H scope (compEnvC scope cl C X.env) fp) tg1 vs1 pat1)
    (ht1 : ∀ (s : Shared) (H : Hp) (C : Addr) (cl : List (Str × Addr)) (fp : List Addr), VTs (X.blk s H scope (compEnvC scope cl C X.env) fp) W0 ifs1 tt1)
    (he : ∀ (s : Shared) (H : Hp) (C : Addr) (cl : List (Str × Addr)) (fp : List Addr), VE (X.blk s H scope (compEnvC scope cl C X.env) fp) W0 elt el) (hs : ∀ x, foldedSetIterable iter X.env x = pure x := by intro _; rfl) (hs1 : ∀ env x, foldedSetIterable iter1 env x = pure x := by intro _ _; rfl) :
    VE X W (.ListComp elt [⟨tg, iter, ifs, 0⟩, ⟨tg1, iter1, ifs1, 0⟩] scope pos) (vLc2 it pat tt it1 pat1 tt1 el (own.map (·.2)) vs1) := fun B =>
  peWk (pe_lc2 hc hN (hi B) ok hv (fun s H C cl fp => pgBlk (hg s H C cl fp)) (fun s H C cl fp => ptsBlk (ht s H C cl fp)) (fun s H C cl fp => piBlk (hi1 s H C cl fp)) (fun s H C cl fp => pgBlk (hg1 s H C cl fp)) (fun s H C cl fp => ptsBlk (ht1 s H C cl fp)) (fun s H C cl fp => peBlk (he s H C cl fp)) hs hs1) fun σ H Q h =>
    rd_lc2 hv (fun _ h => h) (fun B _ _ _ _ h => ⟨B, h⟩) (fun B _ _ _ h => ⟨B, h⟩) (fun B _ _ _ h => ⟨B, h⟩) (fun B _ _ _ _ h => ⟨B, h⟩) (fun B _ _ _ h => ⟨B, h⟩) (fun B _ _ _ h => ⟨B, h⟩) h
theorem vs_setLc2 {i : Nat} {y : Str} {py spos : Pos} (own : List (Str × Nat)) (hc : X.calm = true) (hN : X.N.Nodup) (hsw : swapsWith (.ListComp elt [⟨tg, iter, ifs, 0⟩, ⟨tg1, iter1, ifs1, 0⟩] scope pos) (some (.Name y py)) spos.line X.env = pure true) (hyl : X.env.scope.names.lookup y = some .local)
    (ok : BlkOk X.N X.env.scope scope own) (hv : ∀ i ∈ vs1, i ∈ own.map (·.2)) (hi : VI X W tg iter it)
    (hg : ∀ (s : Shared) (H : Hp) (C : Addr) (cl : List (Str × Addr)) (fp : List Addr), VG (X.blk s H scope (compEnvC scope cl C X.env) fp) tg (own.map (·.2)) pat)
    (ht : ∀ (s : Shared) (H : Hp) (C : Addr) (cl : List (Str × Addr)) (fp : List Addr), VTs (X.blk s H scope (compEnvC scope cl C X.env) fp) W0 ifs tt)
    (hi1 : ∀ (s : Shared) (H : Hp) (C : Addr) (cl : List (Str × Addr)) (fp : List Addr), VI2 (X.blk s H scope (compEnvC scope cl C X.env) fp) W0 tg1 iter1 it1)
    (hg1 : ∀ (s : Shared) (H : Hp) (C : Addr) (cl : List (Str × Addr)) (fp : List Addr), VG (X.blk s H scope (compEnvC scope cl C X.env) fp) tg1 vs1 pat1)
    (ht1 : ∀ (s : Shared) (H : Hp) (C : Addr) (cl : List (Str × Addr)) (fp : List Addr), VTs (X.blk s H scope (compEnvC scope cl C X.env) fp) W0 ifs1 tt1)
    (he : ∀ (s : Shared) (H : Hp) (C : Addr) (cl : List (Str × Addr)) (fp : List Addr), VE (X.blk s H scope (compEnvC scope cl C X.env) fp) W0 elt el) (hy : X.N[i]? = some y := by rfl) (hs : ∀ x, foldedSetIterable iter X.env x = pure x := by intro _; rfl) (hs1 : ∀ env x, foldedSetIterable iter1 env x = pure x := by intro _ _; rfl) :
    VS X W (.Assign [.Name y py] (.ListComp elt [⟨tg, iter, ifs, 0⟩, ⟨tg1, iter1, ifs1, 0⟩] scope pos) spos) (sSet i (vLc2 it pat tt it1 pat1 tt1 el (own.map (·.2)) vs1)) := fun B =>
  psWk (ps_setLc2 hc hN hy hyl hsw (hi B) ok hv (fun s H C cl fp => pgBlk (hg s H C cl fp)) (fun s H C cl fp => ptsBlk (ht s H C cl fp)) (fun s H C cl fp => piBlk (hi1 s H C cl fp)) (fun s H C cl fp => pgBlk (hg1 s H C cl fp)) (fun s H C cl fp => ptsBlk (ht1 s H C cl fp)) (fun s H C cl fp => peBlk (he s H C cl fp)) hs hs1) fun Dn σ H ⟨F, en, S, p⟩ =>
    rd_lc2 hv (fun _ h => h) (fun B _ _ _ _ h => ⟨B, h⟩) (fun B _ _ _ h => ⟨B, h⟩) (fun B _ _ _ h => ⟨B, h⟩) (fun B _ _ _ _ h => ⟨B, h⟩) (fun B _ _ _ h => ⟨B, h⟩) (fun B _ _ _ h => ⟨B, h⟩) ⟨F, en, S, (PostS.bind p).imp fun r en1 F1 H1 S1 s1 q v rv => q _ F1 H1 (S1.store rv) (.refl _)⟩
end
/-! ### list(range(a, b)), tuple(range(n)) -/
section
variable {X : Cx} {W : WX} {a b : Expr} {p p2 pos pos2 : Pos} {f g : M Sl}
theorem dps_rg2 {K : PySem.W.Frag} {F : Hp} (m n : Int) : DpAll K F (rgV m n) (rngD m (n - m).toNat) := by
  unfold rgV rngD
  induction List.range (n - m).toNat with
  | nil => exact .nil
  | cons k ks ih => exact .cons (.int _) ih
def vListR2 (f g : M Sl) : M Sl := fun en => (vD f en).bind fun c e => (vD g e).bind fun d e2 => match c, d with
  | .int m, .int n => if m.natAbs ≤ LIM ∧ n.natAbs ≤ LIM then .ok (.own false (rngD m (n - m).toNat)) e2 else .bad
  | _, _ => .bad
theorem ve_listR2 (hc : X.calm = true) (hg : Gl X "list") (hm : X.mg "list" = none) (hg2 : Gl X "range") (hm2 : X.mg "range" = none) (ha : VE X W a f) (hb : VE X W b g) (na : starEach [a, b] X.env = (false, eval a X.env) :: starEach [b] X.env := by rfl) (na2 : starEach [b] X.env = (false, eval b X.env) :: starEach [] X.env := by rfl) (na3 : (backTo pos2 (starEach [b] X.env)).any (·.1) = false := by rfl)
    (nb : starEach [.Call (.Name "range" p2) [a, b] [] pos2] X.env = (false, eval (.Call (.Name "range" p2) [a, b] [] pos2) X.env) :: starEach [] X.env := by rfl) : VE X W (.Call (.Name "list" p) [.Call (.Name "range" p2) [a, b] [] pos2] [] pos) (vListR2 f g) := fun B =>
  peWk (pe_listRg hc hg hm (prg_2 hg2 hm2 (ha.d B) (hb.d B) na na2 na3) nb) fun σ H Q ⟨F, en, S, q⟩ => by
    refine ⟨F, en, S, (Post.bind q).imp fun d en1 F1 H1 S1 s1 q1 v rv => ?_⟩
    refine ⟨F1, en1, S1, (Post.bind q1).imp fun d2 en2 F2 H2 S2 s2 q2 v2 rv2 => ?_⟩
    split at q2
    · rename_i m n
      cases rv
      cases rv2
      by_cases hl : m.natAbs ≤ LIM ∧ n.natAbs ≤ LIM
      · rw [if_pos hl] at q2
        have hl1 : m.natAbs ≤ 1000000 := hl.1
        have hl2 : n.natAbs ≤ 1000000 := hl.2
        refine ⟨m, n, rfl, rfl, ⟨by omega, by omega, by omega, by omega, by omega⟩, fun c hc => ?_⟩
        have gr : Gr F2 H2 F2 (upd H2 c (.lst (rgV m n))) := Gr.made S2.sub hc
        exact q2 F2 _ (S2.gr gr) (.refl _) _ (S2.res (r := .own false _) ⟨rfl, c, _, rfl, upd_same, S2.sub.free hc, dps_rg2 m n, hc⟩)
      · rw [if_neg hl] at q2
        exact q2.elim
    · exact q2.elim
def vTupR (f : M Sl) : M Sl := fun en => (vD f en).bind fun d e => match d with
  | .int n => if n.natAbs ≤ LIM then .ok (.val (.tuple (rngD 0 n.toNat))) e else .bad
  | _ => .bad
theorem ve_tupR (hc : X.calm = true) (hg : Gl X "tuple") (hm : X.mg "tuple" = none) (hg2 : Gl X "range") (hm2 : X.mg "range" = none) (ha : VE X W a f) (na : starEach [a] X.env = (false, eval a X.env) :: starEach [] X.env := by rfl)
    (nb : starEach [.Call (.Name "range" p2) [a] [] pos2] X.env = (false, eval (.Call (.Name "range" p2) [a] [] pos2) X.env) :: starEach [] X.env := by rfl) : VE X W (.Call (.Name "tuple" p) [.Call (.Name "range" p2) [a] [] pos2] [] pos) (vTupR f) := fun B =>
  peWk (pe_tupRg hc hg hm (prg_1 hg2 hm2 (ha.d B) na) nb) fun σ H Q ⟨F, en, S, q⟩ => by
    refine ⟨F, en, S, (Post.bind q).imp fun d en1 F1 H1 S1 s1 q1 v rv => ?_⟩
    cases d with
    | int n =>
      cases rv
      dsimp only at q1
      by_cases hl : n.natAbs ≤ LIM
      · rw [if_pos hl] at q1
        have hl' : n.natAbs ≤ 1000000 := hl
        refine ⟨n, rfl, ⟨by decide, by decide, by omega, by omega, by omega⟩, fun c hc => ?_⟩
        have gr : Gr F1 H1 (upd F1 c (.tup (rgV 0 n))) (upd H1 c (.tup (rgV 0 n))) := Gr.laid S1.sub hc
        exact q1 _ _ (S1.gr gr) gr.ff _ (.tup (.inl (.inl upd_same)) (dps_mono gr.ff (dps_rg n)))
      · rw [if_neg hl] at q1
        exact q1.elim
    | _ => exact q1.elim
end
end Mv

namespace Mv
open L2 PySem.Spec PySem PyProof.Rows

/-! ### comparisons of a name whose list stays its own -/
def lendO (o : Option Sl) (e : En) : R Sl := match o with
  | some (.val d) => if scal0 d = true then .ok (.val d) e else .bad
  | _ => .bad
@[simp] theorem lendO_bool (b : Bool) (e : En) : lendO (some (.val (.bool b))) e = .ok (.val (.bool b)) e := rfl
@[simp] theorem lendO_int (b : Int) (e : En) : lendO (some (.val (.int b))) e = .ok (.val (.int b)) e := rfl
/-- what a slot holds, to be looked at alone -/
def vLook {α : Type} (i : Nat) (e : En) (k : D → R α) : R α := match agOf e (.slot i) with
  | some x => k x
  | none => .bad
def vOpL (i : Nat) (o : D → D → Option Sl) (f : M Sl) : M Sl := fun en => vLook i en fun _ => (vD f en).bind fun y e => vLook i e fun x => lendO (o x y) e
def vOpR (o : D → D → Option Sl) (f : M Sl) (i : Nat) : M Sl := fun en => (vD f en).bind fun x e => vLook i e fun y => lendO (o x y) e
section
variable {X : Cx} {W : WX} {a b : Expr} {x : Str} {p pos : Pos} {f : M Sl} {op : CmpOp} {o : D → D → Option Sl}
theorem look_some {α : Type} {i : Nat} {e : En} {k : D → R α} {B : Bs} {σ : L2.St} {F : Hp} {q : α → En → Hp → Hp → Prop} (h : Post X.K X.mg B W σ F q (vLook i e k)) : ∃ d, agOf e (.slot i) = some d ∧ Post X.K X.mg B W σ F q (k d) := by
  unfold vLook at h
  cases hh : agOf e (.slot i) with
  | none => rw [hh] at h; exact h.elim
  | some d => rw [hh] at h; exact ⟨d, rfl, h⟩
theorem Sim.slotV {K : PySem.W.Frag} {B : Bs} {σ : L2.St} {en : En} {F H : Hp} {i : Nat} {d : D} (S : Sim K B σ en F H) (h : agOf en (.slot i) = some d) : ∃ v, σ[i]? = some (some v) := by
  unfold agOf at h
  dsimp only at h
  split at h
  · rename_i y hy
    obtain ⟨v, e, _⟩ := S.val i _ hy
    exact ⟨v, e⟩
  · rename_i b ys hy
    obtain ⟨c, _, e, _⟩ := S.own i b ys hy
    exact ⟨_, e⟩
  · cases h
theorem Sim.lendV {K : PySem.W.Frag} {B : Bs} {σ : L2.St} {en : En} {F H : Hp} {i : Nat} {d : D} {v : V} (S : Sim K B σ en F H) (h : agOf en (.slot i) = some d) (hv : σ[i]? = some (some v)) : ∃ G, Same F G ∧ Same G H ∧ Dp K G v d := by
  obtain ⟨G, g1, g2, g3⟩ := S.lend
  have r := S.args g1 g3 (as := [.slot i]) (vs := [v]) (ds := [d]) (.cons (.slot hv) .nil) (by show (agOf en (.slot i)).bind _ = _; rw [h]; rfl)
  cases r with
  | cons r _ => exact ⟨G, g1, g2, r⟩
theorem kd_scal {B : Bs} {σ : L2.St} {en : En} {F G H : Hp} {Q : VK} {o : Option Sl} (S : Sim X.K B σ en F H) (g1 : Same F G) (q : Post X.K X.mg B W σ F (fun r en' F' H' => ∀ v, Rl X.K B σ en' F' H' v r → Q v H') (lendO o en)) : Kd X.K G H Q o := by
  cases o with
  | none => exact q.elim
  | some r =>
    cases r with
    | no => exact q.elim
    | own b xs => exact q.elim
    | val d =>
      unfold lendO at q
      dsimp only at q
      intro F' H' v gr hv
      by_cases hs : scal0 d = true
      · rw [if_pos hs] at q
        have gr2 : Gr F H F H' := ⟨.refl _, S.sub.trans gr.hh, gr.hh, fun _ _ z => .inl z⟩
        have hv : Dp X.K F' v d := hv
        refine q F H' (S.gr gr2) (.refl _) v ?_
        cases hv with
        | non => exact Dp.non
        | bl b => exact Dp.bl b
        | int i => exact Dp.int i
        | str z => exact Dp.str z
        | lst _ _ => cases hs
        | tup _ _ => cases hs
        | dic _ _ => cases hs
        | dit _ _ => cases hs
      · rw [if_neg hs] at q
        exact q.elim
theorem rd_opL {i : Nat} {B : Bs} : ∀ σ H Q, tV X.K X.mg B W (vOpL i o f) σ H Q → tOp (fun x y H Q => ∃ F a b, Same F H ∧ Dp X.K F x a ∧ Dp X.K F y b ∧ Kd X.K F H Q (o a b)) (tVar i) (tD X.K X.mg B W (vD f)) σ H Q := fun σ H Q ⟨F, en, S, q⟩ => by
  obtain ⟨d0, h0, q⟩ := look_some q
  obtain ⟨v, hv⟩ := S.slotV h0
  refine ⟨v, hv, F, en, S, (Post.bind q).imp fun y en1 F1 H1 S1 s1 q1 u ru => ?_⟩
  obtain ⟨d, h1, q1⟩ := look_some q1
  obtain ⟨G, g1, g2, rv⟩ := S1.lendV h1 hv
  exact ⟨G, d, y, g2, rv, dp_mono g1 ru, kd_scal S1 g1 q1⟩
theorem rd_opR {i : Nat} {B : Bs} : ∀ σ H Q, tV X.K X.mg B W (vOpR o f i) σ H Q → tOp (fun x y H Q => ∃ F a b, Same F H ∧ Dp X.K F x a ∧ Dp X.K F y b ∧ Kd X.K F H Q (o a b)) (tD X.K X.mg B W (vD f)) (tVar i) σ H Q := fun σ H Q ⟨F, en, S, q⟩ => by
  refine ⟨F, en, S, (Post.bind q).imp fun y en1 F1 H1 S1 s1 q1 u ru => ?_⟩
  obtain ⟨d, h1, q1⟩ := look_some q1
  obtain ⟨v, hv⟩ := S1.slotV h1
  obtain ⟨G, g1, g2, rv⟩ := S1.lendV h1 hv
  exact ⟨v, hv, G, y, d, g2, dp_mono g1 ru, rv, kd_scal S1 g1 q1⟩
theorem rd_test {B : Bs} {g : M Sl} {t : TE} (h : ∀ σ H Q, tV X.K X.mg B W g σ H Q → t σ H Q) : ∀ σ H Q, tBl X.K X.mg B W (vB g) σ H Q → tTest t σ H Q := fun σ H Q ⟨F, en, S, p⟩ => by
  refine h σ H _ ⟨F, en, S, ?_⟩
  have p2 : Post X.K X.mg B W σ F (fun b _ _ H' => Q b H') ((g en).bind fun r e => (frzS r e).bind bOf) := by
    have e : vB g en = (g en).bind fun r e => (frzS r e).bind bOf := by
      unfold vB vD
      cases g en <;> rfl
    rw [← e]; exact p
  refine (Post.bind p2).imp fun r en1 F1 H1 S1 s1 q v rv => ?_
  cases r with
  | no => exact rv.elim
  | own b xs =>
    obtain ⟨rfl, _⟩ := rv
    exact q.elim
  | val d =>
    cases d with
    | bool k =>
      cases rv
      exact ⟨k, rfl, q F1 H1 S1 (.refl _)⟩
    | _ => exact q.elim
theorem ve_cmpL {i : Nat} (ho : OV X (compareOp op) o) (hb : VE X W b f) (hm : behindInMarks op b = false) (hN : X.N[i]? = some x := by rfl) (hv : Vis X.env.scope x := by first | exact Or.inl rfl | exact Or.inr (Or.inl rfl) | exact Or.inr (Or.inr rfl)) (hd : (x == ("__debug__" : Str)) = false := by decide)
    (hcd : (x == ("__classdict__" : Str)) = false := by decide) : VE X W (.Compare (.Name x p) [op] [b] pos) (vOpL i o f) := fun B => peWk (pe_cmpR ho (pe_var hN hv hd hcd) (hb.d B) hm) rd_opL
theorem vb_cmpL {i : Nat} (ho : OV X (compareOp op) o) (hb : VE X W b f) (hm : behindInMarks op b = false) (hN : X.N[i]? = some x := by rfl) (hv : Vis X.env.scope x := by first | exact Or.inl rfl | exact Or.inr (Or.inl rfl) | exact Or.inr (Or.inr rfl)) (hd : (x == ("__debug__" : Str)) = false := by decide)
    (hcd : (x == ("__classdict__" : Str)) = false := by decide) : VB X W (.Compare (.Name x p) [op] [b] pos) (vB (vOpL i o f)) := fun B => ptWk (pt_cmpR ho (pe_var hN hv hd hcd) (hb.d B) hm) (rd_test rd_opL)
theorem ve_cmpRt {i : Nat} (ho : OV X (compareOp op) o) (ha : VE X W a f) (hm : behindInMarks op (.Name x p) = false) (hN : X.N[i]? = some x := by rfl) (hv : Vis X.env.scope x := by first | exact Or.inl rfl | exact Or.inr (Or.inl rfl) | exact Or.inr (Or.inr rfl)) (hd : (x == ("__debug__" : Str)) = false := by decide)
    (hcd : (x == ("__classdict__" : Str)) = false := by decide) : VE X W (.Compare a [op] [.Name x p] pos) (vOpR o f i) := fun B => peWk (pe_cmpR ho (ha.d B) (pe_var hN hv hd hcd) hm) rd_opR
theorem vb_cmpRt {i : Nat} (ho : OV X (compareOp op) o) (ha : VE X W a f) (hm : behindInMarks op (.Name x p) = false) (hN : X.N[i]? = some x := by rfl) (hv : Vis X.env.scope x := by first | exact Or.inl rfl | exact Or.inr (Or.inl rfl) | exact Or.inr (Or.inr rfl)) (hd : (x == ("__debug__" : Str)) = false := by decide)
    (hcd : (x == ("__classdict__" : Str)) = false := by decide) : VB X W (.Compare a [op] [.Name x p] pos) (vB (vOpR o f i)) := fun B => ptWk (pt_cmpR ho (ha.d B) (pe_var hN hv hd hcd) hm) (rd_test rd_opR)
end
end Mv

namespace Mv
open L2 PySem.Spec PySem PyProof.Rows

/-! ### f(bag, xs), both lists their caller's own: a def that returns one expression -/
structure GrB2 (b c : Addr) (F H F' H' : Hp) : Prop where
  ff : Same F F'
  fh : Same F' H'
  hh : ∀ a o, a ≠ b → a ≠ c → H a = some o → H' a = some o
  nw : ∀ a o, F' a = some o → F a = some o ∨ H a = none
def spB2 (K : PySem.W.Frag) (m : List D → List D → Option (D × List D × List D)) : Sp := fun vs H Q _ => ∃ (b c : Addr) (ws us : List V) (xs zs : List D) (F : Hp),
  vs = [.ref b, .ref c] ∧ b ≠ c ∧ H b = some (.lst ws) ∧ H c = some (.lst us) ∧ F b = none ∧ F c = none ∧ Same F H ∧ DpAll K F ws xs ∧ DpAll K F us zs ∧ match m xs zs with
  | some (d, ys, zs') => ∀ F' H' v ws' us', GrB2 b c F H F' H' → H' b = some (.lst ws') → DpAll K F' ws' ys → H' c = some (.lst us') → DpAll K F' us' zs' → Dp K F' v d → Q v H'
  | none => False
structure FnB2 (P : Program) (w : World) (K : PySem.W.Frag) (mg : Str → Option Value) (base : Heap) (x : Str) (k : Nat) (m : List D → List D → Option (D × List D × List D)) : Prop where
  ex : ∃ (f : Addr) (fd : FuncData) (ps : List Str), FnG P w K mg base k f fd ps (spB2 K m) ∧ mg x = some (.ref f) ∧ PySem.W.keepIn K (.ref f) = true ∧ Binds K fd ps []
theorem FnB2.mono {P : Program} {w : World} {K : PySem.W.Frag} {mg : Str → Option Value} {base : Heap} {x : Str} {j k : Nat} {m : List D → List D → Option (D × List D × List D)} (F : FnB2 P w K mg base x j m) (h : j ≤ k) : FnB2 P w K mg base x k m :=
  let ⟨f, fd, ps, h1, h2⟩ := F.ex
  ⟨f, fd, ps, h1.mono h, h2⟩
section
variable {K : PySem.W.Frag} {F H F' H' : Hp} {B : Bs} {σ : L2.St} {en : En}
theorem Sim.grB2 {i j : Nat} {b b2 : Bool} {xs ys zs zs' : List D} {a c : Addr} {vs ws us us' : List V} (S : Sim K B σ en F H) (hi : en[i]? = some (.own b xs)) (hj : en[j]? = some (.own b2 zs)) (hij : i ≠ j) (h1 : σ[i]? = some (some (.ref a))) (k1 : σ[j]? = some (some (.ref c)))
    (h2 : H a = some (.lst vs)) (k2 : H c = some (.lst us)) (h4 : F a = none) (k4 : F c = none) (gr : GrB2 a c F H F' H') (h5 : H' a = some (.lst ws)) (k5 : H' c = some (.lst us')) (h6 : DpAll K F' ws ys) (k6 : DpAll K F' us' zs') :
    Sim K B σ ((en.set i (.own b ys)).set j (.own b2 zs')) F' H' := by
  have hac : a ≠ c := fun e => S.apart i j c hij (isOwn_out hi) (isOwn_out hj) (e ▸ h1) k1
  have no : ∀ {q : Addr} {zs : List V}, F q = none → H q = some (.lst zs) → F' q = none := fun {q zs} z1 z2 => by
    cases w : F' q with
    | none => rfl
    | some o =>
      rcases gr.nw q o w with z | z
      · rw [z1] at z; cases z
      · rw [z2] at z; cases z
  have fa := no h4 h2
  have fc := no k4 k2
  have g2 : Gr F H F' (upd (upd H' a (.lst vs)) c (.lst us)) := by
    refine ⟨gr.ff, same_upd2 (same_upd2 gr.fh fa) fc, fun q o e => ?_, gr.nw⟩
    by_cases hq : q = c
    · subst hq; rw [upd_same, ← k2]; exact e
    · rw [upd_ne hq]
      by_cases hq2 : q = a
      · subst hq2; rw [upd_same, ← h2]; exact e
      · rw [upd_ne hq2]; exact gr.hh q o hq2 hq e
  have S2 := (S.gr g2).change (i := i) (ws := ws) hi h1 (by rw [upd_ne hac, upd_same]) h6
  have S3 := S2.change (i := j) (ws := us') (by rw [List.getElem?_set_ne hij]; exact hj) k1 (by rw [upd_ne hac.symm, upd_same]) k6
  have e : upd (upd (upd (upd H' a (.lst vs)) c (.lst us)) a (.lst ws)) c (.lst us') = H' := by
    funext q
    by_cases hq : q = c
    · subst hq; rw [upd_same, k5]
    · rw [upd_ne hq]
      by_cases hq2 : q = a
      · subst hq2; rw [upd_same, h5]
      · rw [upd_ne hq2, upd_ne hq, upd_ne hq2]
  rw [e] at S3
  exact S3
def bsB2 (F H : Hp) (b c : Addr) : Bs := ⟨F, fun a => if a = b ∨ a = c then none else H a, fun a => H a ≠ none, fun a => a = b ∨ a = c⟩
theorem rep_no {n i : Nat} {s : Sl} (h : (List.replicate n Sl.no)[i]? = some s) : s = .no := by
  rw [List.getElem?_replicate] at h
  split at h
  · exact (Option.some.inj h).symm
  · cases h
theorem sim_startB2 {N : List Str} {b c : Addr} {ws us : List V} {xs zs : List D} (hbc : b ≠ c) (s : Same F H) (hb : H b = some (.lst ws)) (hc : H c = some (.lst us)) (fb : F b = none) (fc : F c = none) (rb : DpAll K F ws xs) (rc : DpAll K F us zs) (hn : 2 ≤ N.length) :
    Sim K (bsB2 F H b c) (L2.start N [.ref b, .ref c]) (.own true xs :: .own true zs :: List.replicate (N.length - 2) .no) F H := by
  have tl : L2.start N [.ref b, .ref c] = some (.ref b) :: some (.ref c) :: List.replicate (N.length - 2) none := by
    unfold L2.start
    simp
  rw [tl]
  refine ⟨by simp, s, .refl _, fun a o e => .inl e, fun a o e => ?_, fun a z => z, fun i d h => ?_, fun i b' ys h => ?_, fun i j a hij hi hj e1 e2 => ?_⟩
  · have e' : (if a = b ∨ a = c then none else H a) = some o := e
    split at e'
    · cases e'
    · exact e'
  · match i, h with
    | 0, h => cases h
    | 1, h => cases h
    | i + 2, h => cases rep_no (i := i) (by simpa using h)
  · match i, h with
    | 0, h =>
      cases h
      exact ⟨b, ws, rfl, hb, fb, rb, if_pos (.inl rfl), (fun z => by cases z), fun _ => .inl rfl⟩
    | 1, h =>
      cases h
      exact ⟨c, us, rfl, hc, fc, rc, if_pos (.inr rfl), (fun z => by cases z), fun _ => .inr rfl⟩
    | i + 2, h => cases rep_no (i := i) (by simpa using h)
  · have z : ∀ k, isOwn (Sl.own true xs :: Sl.own true zs :: List.replicate (N.length - 2) Sl.no) k → k = 0 ∨ k = 1 := fun k ⟨b', ys, h⟩ => by
      match k, h with
      | 0, _ => exact .inl rfl
      | 1, _ => exact .inr rfl
      | k + 2, h => cases rep_no (i := k) (by simpa using h)
    rcases z i hi with rfl | rfl <;> rcases z j hj with rfl | rfl
    · exact hij rfl
    · cases e1; cases e2; exact hbc rfl
    · cases e1; cases e2; exact hbc rfl
    · exact hij rfl
def twoOwn (e : En) : Option (List D × List D) := match (e[0]? : Option Sl) with
  | some (.own true ys) => (match (e[1]? : Option Sl) with
    | some (.own true zs) => some (ys, zs)
    | _ => none)
  | _ => none
theorem twoOwn_some {e : En} {ys zs : List D} (h : twoOwn e = some (ys, zs)) : e[0]? = some (.own true ys) ∧ e[1]? = some (.own true zs) := by
  unfold twoOwn at h
  split at h
  · rename_i h0
    split at h
    · rename_i h1
      cases h
      exact ⟨h0, h1⟩
    · cases h
  · cases h
/-- what an expression gives of two lists that are its caller's -/
def runB2 (n : Nat) (f : M Sl) : List D → List D → Option (D × List D × List D) := fun xs zs => match f (.own true xs :: .own true zs :: List.replicate (n - 2) .no) with
  | .ok (.val d) e => (twoOwn e).map fun p => (d, p.1, p.2)
  | _ => none
end
section
variable {P : Program} {w : World} {K : PySem.W.Frag} {mg : Str → Option Value} {base : Heap} {x qual : Str} {st : Stmt} {f : Addr} {fd : FuncData} {N : List Str} {k : Nat} {p1 p2 : Str}
theorem fnb2_run {g : M Sl} {e : Expr} {pos : Pos} (F : Fun K x qual st f fd) (S : FnScope N [p1, p2] (defScope st)) (hm : mg x = some (.ref f)) (b : Binds K fd [p1, p2] []) (hbody : defBody st = [.Return (some e) pos])
    (body : ∀ (cdv : Value) (A : Around) (outer : List Env) (s : Shared) (H : Hp) (E : XK), RoomG k (A.deeper (envOfC qual (defScope st) s.heap.objs.size f cdv)) →
      VE (bodyX P w K mg base N qual st f cdv A outer s H E) W0 e g) : FnB2 P w K mg base x (k + 1) (runB2 N.length g) := by
  refine ⟨f, fd, [p1, p2], fnG_of F S (fun vs H Q E ⟨b, c, _, _, _, _, _, e, _⟩ => by rw [e]; rfl) (fun cdv A outer s H vs Q E hr h => ?_), hm, F.kp, b⟩
  have hps : 2 ≤ N.length := by
    have := congrArg List.length S.pre
    rw [List.length_take] at this
    simp at this
    omega
  obtain ⟨b, c, ws, us, xs, zs, F0, rfl, hbc, hb, hc, fb, fc, s0, rb, rc, q⟩ := h
  rw [hbody]
  refine ⟨_, pss_one (ps_ret (body cdv A outer s H E hr (bsB2 F0 H b c))), ?_⟩
  refine ⟨F0, _, sim_startB2 hbc s0 hb hc fb fc rb rc hps, ?_⟩
  unfold runB2 at q
  cases hg : g (.own true xs :: .own true zs :: List.replicate (N.length - 2) .no) with
  | bad => rw [hg] at q; exact q.elim
  | exc c fs e => rw [hg] at q; exact q.elim
  | ok r e =>
    rw [hg] at q
    cases r with
    | no => exact q.elim
    | own b xs => exact q.elim
    | val d =>
      dsimp only at q
      intro F' H' S' s' v hv
      cases h2 : twoOwn e with
      | none => rw [h2] at q; exact q.elim
      | some p =>
        obtain ⟨ys, zs'⟩ := p
        rw [h2] at q
        obtain ⟨h0, h1⟩ := twoOwn_some h2
        obtain ⟨a0, w0, x0, x1, x2, x3, _⟩ := S'.own 0 true ys h0
        obtain ⟨a1, w1, y0, y1, y2, y3, _⟩ := S'.own 1 true zs' h1
        have e0 : (L2.start N [.ref b, .ref c])[0]? = some (some (.ref b)) := by simp [L2.start]
        have e1 : (L2.start N [.ref b, .ref c])[1]? = some (some (.ref c)) := by simp [L2.start]
        rw [e0] at x0; cases x0
        rw [e1] at y0; cases y0
        exact q F' H' v w0 w1 ⟨s', S'.sub, fun a o n1 n2 z => S'.kp a o (show (if a = b ∨ a = c then none else H a) = some o by rw [if_neg (fun z => z.elim n1 n2)]; exact z), fun a o z => (S'.new a o z).imp_right fun z => Classical.byContradiction fun q => z q⟩ x1 x3 y1 y3 hv
end
/-- f(bag, xs) -/
def vCallB2 (i j : Nat) (m : List D → List D → Option (D × List D × List D)) : M Sl := fun e => match (e[i]? : Option Sl), (e[j]? : Option Sl) with
  | some (.own b xs), some (.own b2 zs) => (match m xs zs with
    | some (d, ys, zs') => if i ≠ j then .ok (.val d) ((e.set i (.own b ys)).set j (.own b2 zs')) else .bad
    | none => .bad)
  | _, _ => .bad
section
variable {X : Cx} {W : WX} {x y z : Str} {p py pz pos : Pos} {k : Nat} {m : List D → List D → Option (D × List D × List D)}
theorem ve_callB2 {i j : Nat} (C : FnB2 X.prog X.w X.K X.mg X.base x k m) (hr : RoomG k X.A) (tk : Takes X W) (hN : X.N[i]? = some y := by rfl) (hv : Vis X.env.scope y := by first | exact Or.inl rfl | exact Or.inr (Or.inl rfl) | exact Or.inr (Or.inr rfl)) (hd : (y == ("__debug__" : Str)) = false := by decide)
    (hcd : (y == ("__classdict__" : Str)) = false := by decide) (hN2 : X.N[j]? = some z := by rfl) (hv2 : Vis X.env.scope z := by first | exact Or.inl rfl | exact Or.inr (Or.inl rfl) | exact Or.inr (Or.inr rfl)) (hd2 : (z == ("__debug__" : Str)) = false := by decide)
    (hcd2 : (z == ("__classdict__" : Str)) = false := by decide) (hg : Gl X x := by rfl) (hdb : (x == ("__debug__" : Str)) = false := by decide) (he : starEach [.Name y py, .Name z pz] X.env = (false, eval (.Name y py) X.env) :: starEach [.Name z pz] X.env := by rfl)
    (he2 : starEach [.Name z pz] X.env = (false, eval (.Name z pz) X.env) :: starEach [] X.env := by rfl) (hpl : (backTo pos (starEach [.Name z pz] X.env)).any (·.1) = false := by rfl) : VE X W (.Call (.Name x p) [.Name y py, .Name z pz] [] pos) (vCallB2 i j m) := fun B => by
  obtain ⟨f, fd, ps, FO, hm, hk, hb⟩ := C.ex
  refine peWk (pe_callG (E := WE W) FO hr hg hm hk hb (fun σ => passAt tk σ) (pa_cons (pe_var hN hv hd hcd) (pa_cons (pe_var hN2 hv2 hd2 hcd2) pa_nil he2) he) hdb he hpl) fun σ H Q ⟨F, en, S, q⟩ => ?_
  unfold vCallB2 at q
  cases h0 : (en[i]? : Option Sl) with
  | none => rw [h0] at q; exact q.elim
  | some r0 =>
    cases h1 : (en[j]? : Option Sl) with
    | none => rw [h0, h1] at q; cases r0 <;> exact q.elim
    | some r1 =>
      rw [h0, h1] at q
      cases r0 with
      | no => exact q.elim
      | val _ => exact q.elim
      | own o0 xs =>
        cases r1 with
        | no => exact q.elim
        | val _ => exact q.elim
        | own o1 zs =>
          dsimp only at q
          obtain ⟨a, vs, e1, l1, f1, r1, _⟩ := S.own i o0 xs h0
          obtain ⟨c, us, e2, l2, f2, r2, _⟩ := S.own j o1 zs h1
          cases hmm : m xs zs with
          | none => rw [hmm] at q; exact q.elim
          | some o =>
            obtain ⟨d, ys, zs'⟩ := o
            rw [hmm] at q
            dsimp only at q
            by_cases hij : i ≠ j
            · rw [if_pos hij] at q
              have hac : a ≠ c := fun e => S.apart i j c hij (isOwn_out h0) (isOwn_out h1) (e ▸ e1) e2
              refine ⟨_, e1, _, e2, ?_⟩
              refine ⟨a, c, vs, us, xs, zs, F, rfl, hac, l1, l2, f1, f2, S.sub, r1, r2, ?_⟩
              rw [hmm]
              intro F' H' v ws' us' gr h5 h6 k5 k6 hv
              exact q F' H' (S.grB2 h0 h1 hij e1 e2 l1 l2 f1 f2 gr h5 k5 h6 k6) gr.ff v hv
            · rw [if_neg hij] at q
              exact q.elim
end
end Mv

namespace Mv
open L2 PySem.Spec PySem PyProof.Rows
/-! ### tuple * 1, tuple * 0, () * n -/
theorem tuple_mul_same (l : Addr) (items : Array Value) (n : Nat) (sl : Array (Option Value)) (dd : Option Addr) (x : Int) (u : Tok) (c0 : (decide (x < -(2 ^ 63)) || decide (x ≥ 2 ^ 63)) = false) (c1 : (items.isEmpty || x == 1) = true) :
    Meets (Builtin.«tuple.__mul__» ⟨[.ref l, .int x u], []⟩) (fun _ R s =>
                                                                                                                  s.heap.get? l = some { cls := .type "tuple", dict := dd, data := .seq items n, slots := sl } ∧
      R (.ok (.ret (Value.ref l))) s) :=
  .of_wp fun prog w A R s h =>
                                                                                                                by
    obtain ⟨hp, g,
                                                                                                                  d, tk, os⟩ := s
    obtain ⟨hl, h⟩ := h
    have f1 := AutoSeq1.idx_int
    wp_walk using
                                                                                                                  wpAny_loadPart' hl
    repeat (first
      | (refine wpAny_ite_false (decide_eq_false (by rw [c0];
                                                                                                                    exact Bool.false_ne_true)) ?_; wp_walk using wpAny_loadPart' hl)
      | (refine wpAny_ite_true (decide_eq_true (by rw [c1])) ?_; wp_walk using wpAny_loadPart' hl))
    exact ⟨_, rfl, h⟩
theorem tuple_mul_none (l : Addr) (items : Array Value) (n : Nat) (sl : Array (Option Value)) (dd : Option Addr) (x : Int) (u : Tok) (c0 : (decide (x < -(2 ^ 63)) || decide (x ≥ 2 ^ 63)) = false) (c1 : (items.isEmpty || x == 1) = false) (c2 : (decide (x ≤ 0) || items.isEmpty) = true) :
    Meets (Builtin.«tuple.__mul__» ⟨[.ref l, .int x u], []⟩) (fun _ R s =>
                                                                                                                  s.heap.get? l = some { cls := .type "tuple", dict := dd, data := .seq items n, slots := sl } ∧
      R (.ok (.ret (Value.ref s.heap.objs.size))) { s with heap := s.heap.push { cls := Value.type "tuple", data := Data.seq #[] }, toks := s.toks }) :=
  .of_wp fun prog w A R s h =>
                                                                                                                by
    obtain ⟨hp, g,
                                                                                                                  d, tk, os⟩ := s
    obtain ⟨hl, h⟩ := h
    have f1 := AutoSeq1.idx_int
    wp_walk using
                                                                                                                  wpAny_loadPart' hl
    repeat (first
      | (refine wpAny_ite_false (decide_eq_false (by rw [c0];
                                                                                                                    exact Bool.false_ne_true)) ?_; wp_walk using wpAny_loadPart' hl)
      | (refine wpAny_ite_false (decide_eq_false (by rw [c1];
                                                                                                                    exact Bool.false_ne_true)) ?_; wp_walk using wpAny_loadPart' hl)
      | (refine wpAny_ite_true (decide_eq_true (by rw [c2])) ?_; wp_walk using wpAny_loadPart' hl))
    exact ⟨_, rfl, h⟩
def rRepT1 (K : PySem.W.Frag) : R2 := fun x y H Q => ∃ l k xs, x = .ref l ∧ y = .int k ∧ SqT K H l xs ∧ k.natAbs < 1000000 ∧ (((xs = [] ∨ k = 1) ∧ Q (.ref l) H) ∨ (xs ≠ [] ∧ k ≤ 0 ∧ ∀ p, H p = none → Q (.ref p) (upd H p (.tup []))))
section
variable {X : Cx}
theorem op_repT1 : OpR X (binaryOp .Mult) (rRepT1 X.K) := by
  intro pins s σ H x y
  intro v u Q I rx ry h
  obtain ⟨l, k, xs, rfl, rfl, hT, hk, h⟩ := h
  cases rx
  obtain ⟨t, rfl⟩ := ry
  obtain ⟨its, r, ⟨⟨cls, dd, data,
                                                                                                                sl⟩, ho, hc, n, hd⟩, hs⟩ := I.tuple hT
  simp only at hc hd
  subst hc hd
  have hle : its.length = xs.length :=
                                                                                                                r.length.symm
  have hi : its.toArray.isEmpty = decide (xs = []) := by
    cases its with
    | nil =>
      have : xs = [] := List.eq_nil_of_length_eq_zero hle.symm
      rw [this]; rfl
    | cons a b =>
      have : xs ≠ [] := fun e => by rw [e] at hle; cases hle
      rw [decide_eq_false this]; rfl
  have c0 : (decide (k < -(2 ^ 63)) || decide
                                                                                                                (k ≥ 2 ^ 63)) = false := by
    rw [decide_eq_false (by omega),
                                                                                                                  decide_eq_false (by omega)] <;> rfl
  refine wpAny_binaryOp_repeat_ref (T := "tuple") (U := "int") (by decide) ⟨_, ho, rfl⟩ (fun s' =>
                                                                                                                typeIs_int s' k t) noFill_tuple_mul F.fills_int_mul F.slot_int_rmul repeat_tuple F.slot_int_index.lookup
    (call_meets F.slot_int_rmul (typeIs_int s k t) F.entry_int_rmul
                                                                                                                  (F.args_int_rmul_2 _ _) (int_rmul_tuple k t l its.toArray n dd sl)
      ⟨ho, rfl, ⟨_, ho, rfl⟩, ?_⟩)
  rcases h with ⟨h1, q⟩ | ⟨h1, h2, q⟩
  · have c1 : (its.toArray.isEmpty || k == 1) = true := by
      rw [hi]
      rcases h1 with h1 | h1
      · rw [decide_eq_true h1]; rfl
      · rw [h1]; simp
    exact call_meets F.slot_tuple_mul ⟨_, ho, rfl⟩ F.entry_tuple_mul (F.args_tuple_mul_2 _ _) (tuple_mul_same l its.toArray n sl dd k t c0 c1) ⟨ho, ⟨.ref l, H, I, rfl, q⟩⟩
  · have c1 : (its.toArray.isEmpty || k == 1) = false := by
      rw [hi, decide_eq_false h1, Bool.false_or]
      exact beq_eq_false_iff_ne.mpr
                                                                                                                    (by omega)
    have c2 : (decide (k ≤ 0) || its.toArray.isEmpty) = true := by rw [decide_eq_true h2]; rfl
    refine call_meets F.slot_tuple_mul ⟨_, ho, rfl⟩ F.entry_tuple_mul (F.args_tuple_mul_2 _ _) (tuple_mul_none l its.toArray n sl dd k t c0 c1 c2) ⟨ho, ?_⟩
    refine ⟨.ref s.heap.objs.size, _, I.laid (t' := s.toks) (o := .tup []) (fun b ob q => Heap.get?_push_of_some _ q) (Nat.le_refl _) ?_, rfl, q _ (I.hok.fresh (Nat.le_refl _))⟩
    exact ⟨by rw [List.length_nil]; exact Nat.zero_le _, [], .nil, IsTup.new _ _⟩
def dMul2 : D → D → Option Sl
  | .tuple xs, .int k => if k.natAbs < 1000000 then (if xs = [] ∨ k = 1 then some (.val (.tuple xs)) else if k ≤ 0 then some (.val (.tuple [])) else dMul (.tuple xs) (.int k)) else none
  | x, y => dMul x y
theorem ov_mul2 : OV X (binaryOp .Mult) dMul2 := by
  have h2 := (ov_mul (X := X)).or (op_repT1 (X := X))
  intro pins s σ H x y v u Q I rx ry ⟨F, a, b, s0, ra, rb, k⟩
  refine h2 pins s σ H x y v u Q I rx ry ?_
  by_cases hab : ∃ xs n, a = .tuple xs ∧ b = .int n
  · obtain ⟨xs, n, rfl, rfl⟩ := hab
    unfold dMul2 at k
    dsimp only at k
    split at k
    · rename_i hn
      obtain ⟨a1, us, rfl, h1, r1⟩ := tup_of ra
      have hy := int_of rb
      subst hy
      split at k
      · rename_i hx
        refine .inr ⟨a1, n, us, rfl, rfl, sqT_mono s0 h1, hn, .inl ⟨hx.imp (fun e => ?_) id, k.val s0 ra⟩⟩
        subst e
        cases r1
        rfl
      · rename_i hx
        split at k
        · rename_i h0
          refine .inr ⟨a1, n, us, rfl, rfl, sqT_mono s0 h1, hn, .inr ⟨fun e => hx (.inl ?_), h0, k.tup s0 .nil⟩⟩
          subst e
          cases r1
          rfl
        · exact .inl ⟨F, _, _, s0, ra, rb, k⟩
    · exact k.elim
  · have e : dMul2 a b = dMul a b := by
      unfold dMul2
      split
      · exact absurd ⟨_, _, rfl, rfl⟩ hab
      · rfl
    rw [e] at k
    exact .inl ⟨F, a, b, s0, ra, rb, k⟩
end
end Mv

namespace Mv
open L2 PySem.Spec PySem PyProof.Rows

/-! ### a name's own list is moved -/
def vMove (i : Nat) : M Sl := fun en => match en[i]? with
  | some (.val d) => .ok (.val d) en
  | some (.own false xs) => .ok (.own false xs) (en.set i .no)
  | _ => .bad
section
variable {X : Cx} {W : WX} {pos : Pos}
theorem ve_move (i : Nat) {x : Str} (hN : X.N[i]? = some x := by rfl) (hv : Vis X.env.scope x := by first | exact Or.inl rfl | exact Or.inr (Or.inl rfl) | exact Or.inr (Or.inr rfl)) (hd : (x == ("__debug__" : Str)) = false := by decide)
    (hcd : (x == ("__classdict__" : Str)) = false := by decide) : VE X W (.Name x pos) (vMove i) := fun B => peWk (pe_var hN hv hd hcd) fun σ H Q ⟨F, en, S, p⟩ => by
  unfold vMove at p
  split at p
  · rename_i d hh
    obtain ⟨v, h1, h2⟩ := S.val i d hh
    exact ⟨v, h1, p F H S (.refl _) v h2⟩
  · rename_i xs hh
    obtain ⟨a, vs, h1, h2, h3, h4, h5, h6, _⟩ := S.own i _ xs hh
    refine ⟨_, h1, p F H (S.forget i) (.refl _) _ ⟨rfl, a, vs, rfl, h2, h3, h4, h5, h6 rfl, fun j hj e => ?_⟩⟩
    rcases isOwn_set hj with ⟨_, _, _, z⟩ | ⟨hji, hj⟩
    · cases z
    · exact S.apart i j a (Ne.symm hji) (isOwn_out hh) hj h1 e
  · exact p.elim
end
/-! ### own lists of tuples, lent to a def that is given the bag -/
def tupHead : List D → Bool
  | .tuple _ :: _ => true
  | _ => false
/-- nothing in it can be a lent list -/
def farD : D → Bool
  | .list [] => true
  | .list (.int _ :: es) => flatDs es
  | d => flatD d
def lentOk (e : En) : List Ag → Bool
  | [] => true
  | .d _ :: as => lentOk e as
  | .slot j :: as => (match e[j]? with
    | some (.own _ zs) => tupHead zs
    | some (.val _) => true
    | _ => false) && lentOk e as
def outL (i : Nat) (o : Option (Out × List D)) (b : Bool) (e : En) : R Sl := match o with
  | some (.ret (.val d), ys) => if flatD d = true ∧ ys.all farD = true then .ok (.val d) (e.set i (.own b ys)) else .bad
  | some (.ret (.own false rs), ys) => if flatDs rs = true ∧ ys.all farD = true then .ok (.own false rs) (e.set i (.own b ys)) else .bad
  | _ => .bad
def noBag (i : Nat) : List Ag → Bool
  | [] => true
  | .d _ :: as => noBag i as
  | .slot j :: as => decide (j ≠ i) && noBag i as
def vCallBL (i : Nat) (m : List D → List D → Option (Out × List D)) (g : M (List Ag)) : M Sl := fun en => ownE i en fun _ _ => (g en).bind fun as e => if noBag i as = true ∧ lentOk e as = true then (match agsOf e as with
    | some ds => ownE i e fun b xs => outL i (m xs ds) b e
    | none => .bad) else .bad
section
variable {K : PySem.W.Frag} {F F' F2 : Hp}
/-- the addresses of lent lists -/
def Lent (K : PySem.W.Frag) (F G : Hp) (c : Addr) : Prop := F c = none ∧ ∃ us t rest, G c = some (.lst us) ∧ us = V.ref t :: rest
mutual
theorem dp_flat (h : ∀ c o, F' c = some o → F2 c = some o ∨ ∃ us, o = .lst us) : ∀ {d : D} {v : V}, flatD d = true → Dp K F' v d → Dp K F2 v d
  | .none, _, _, .non => .non
  | .bool _, _, _, .bl b => .bl b
  | .int _, _, _, .int i => .int i
  | .str _, _, _, .str x => .str x
  | .list _, _, h, _ => by simp only [flatD] at h; cases h
  | .dict _, _, h, _ => by simp only [flatD] at h; cases h
  | .tuple _, _, hf, .tup h1 h2 => by
    refine .tup ?_ (dps_flat h (by simpa only [flatD] using hf) h2)
    rcases h1 with (h1 | ⟨o, h1⟩) | h1
    · rcases h _ _ h1 with z | ⟨us, z⟩
      · exact .inl (.inl z)
      · cases z
    · rcases h _ _ h1 with z | ⟨us, z⟩
      · exact .inl (.inr ⟨o, z⟩)
      · cases z
    · exact .inr h1
theorem dps_flat (h : ∀ c o, F' c = some o → F2 c = some o ∨ ∃ us, o = .lst us) : ∀ {ds : List D} {vs : List V}, flatDs ds = true → DpAll K F' vs ds → DpAll K F2 vs ds
  | [], _, _, .nil => .nil
  | _ :: _, _, hf, .cons r rs => by
    simp only [flatDs, Bool.and_eq_true] at hf
    exact .cons (dp_flat h hf.1 r) (dps_flat h hf.2 rs)
end
theorem dp_far {d : D} {v : V} (h : ∀ c o, F' c = some o → F2 c = some o ∨ ∃ us t rest, o = .lst us ∧ us = V.ref t :: rest) (hf : farD d = true) (r : Dp K F' v d) : Dp K F2 v d := by
  have h' : ∀ c o, F' c = some o → F2 c = some o ∨ ∃ us, o = HO.lst us := fun c o e => (h c o e).imp id fun ⟨us, _, _, z, _⟩ => ⟨us, z⟩
  cases d with
  | list es =>
    cases r with
    | @lst a us _ h1 h2 =>
      have rd : Rd F2 a (.lst us) := by
        rcases h1 with h1 | ⟨o, h1⟩
        · rcases h _ _ h1 with z | ⟨us', t, rest, z, z2⟩
          · exact .inl z
          · cases z
            subst z2
            cases es with
            | nil => cases h2
            | cons e0 es =>
              cases h2 with
              | cons r0 _ =>
                cases e0 with
                | int i => cases r0
                | _ => simp [farD, flatD] at hf
        · rcases h _ _ h1 with z | ⟨us', t, rest, z, z2⟩
          · exact .inr ⟨o, z⟩
          · cases z
      refine .lst rd ?_
      cases es with
      | nil => cases h2; exact .nil
      | cons e0 es =>
        cases h2 with
        | cons r0 rs =>
          cases e0 with
          | int i =>
            cases r0
            exact .cons (.int i) (dps_flat h' (by simpa [farD] using hf) rs)
          | _ => simp [farD, flatD] at hf
  | none => exact dp_flat h' hf r
  | bool b => exact dp_flat h' hf r
  | int i => exact dp_flat h' hf r
  | str x => exact dp_flat h' hf r
  | tuple xs => exact dp_flat h' hf r
  | dict kv => exact dp_flat h' hf r
theorem dps_far (h : ∀ c o, F' c = some o → F2 c = some o ∨ ∃ us t rest, o = .lst us ∧ us = V.ref t :: rest) : ∀ {ds : List D} {vs : List V}, ds.all farD = true → DpAll K F' vs ds → DpAll K F2 vs ds
  | [], _, _, .nil => .nil
  | _ :: _, _, hf, .cons r rs => by
    rw [List.all_cons,
                                                                                                                  Bool.and_eq_true] at hf
    exact .cons (dp_far h hf.1 r) (dps_far h hf.2 rs)
end

section
variable {K : PySem.W.Frag} {mg : Str → Option Value} {B : Bs} {W : WX} {σ : L2.St} {en : En} {F H : Hp}
/-- the lent slots' lists frozen, for the callee alone -/
theorem Sim.lendS (S : Sim K B σ en F H) (i : Nat) (a0 : Addr) (hi : isOwn en i) (ha : σ[i]? = some (some (.ref a0))) : ∀ (as : List Ag), noBag i as = true → lentOk en as = true → ∃ G, Same F G ∧ Same G H ∧ G a0 = none ∧ (∀ c o, G c = some o → F c = some o ∨ Lent K F G c) ∧ (∀ c, Lent K F G c → ∃ us, H c = some (.lst us)) ∧
    ∀ (j : Nat) (b : Bool) (xs : List D), Ag.slot j ∈ as → en[j]? = some (.own b xs) → ∃ v, σ[j]? = some (some v) ∧ Dp K G v (.list xs) := by
  intro as hb hl
  have f0 : F a0 = none := by
    obtain ⟨b, xs, hi⟩ := hi
    obtain ⟨a, vs, h1, _, h3, _⟩ := S.own i b xs hi
    rw [ha] at h1
    cases h1
    exact h3
  induction as with
  | nil => exact ⟨F, .refl _, S.sub, f0, fun c o e => .inl e, fun c q => (by obtain ⟨h, _, _, _, e, _⟩ := q; rw [h] at e; cases e), fun j b xs h => (List.not_mem_nil h).elim⟩
  | cons x as ih =>
    cases x with
    | d x =>
      obtain ⟨G, g1, g2, g3, g4, g5, g6⟩ := ih hb hl
      exact ⟨G, g1, g2, g3, g4, g5, fun j b xs h => g6 j b xs (by simpa using h)⟩
    | slot j =>
      simp only [noBag, lentOk, Bool.and_eq_true, decide_eq_true_eq] at hb hl
      obtain ⟨G, g1, g2, g3, g4, g5, g6⟩ := ih hb.2 hl.2
      cases hj : en[j]? with
      | none => rw [hj] at hl; exact absurd hl.1 (by decide)
      | some s =>
        rw [hj] at hl
        cases s with
        | no => exact absurd hl.1 (by decide)
        | val d => exact ⟨G, g1, g2, g3, g4, g5, fun k b xs h hk => by
            rcases List.mem_cons.mp h with
                                                                                                                          e | h
            · cases e; rw [hj] at hk; cases hk
            · exact g6 k b xs h hk⟩
        | own b zs =>
          obtain ⟨a, us, h1, h2, h3, h4, _⟩ := S.own j b zs hj
          have haa : a ≠ a0 := fun e => S.apart j i a0 hb.1 (isOwn_out hj) hi (e ▸ h1) ha
          -- the first item is a tuple
          have hd : ∃ t rest, us = V.ref t :: rest := by
            have ht : tupHead zs = true := hl.1
            cases zs with
            | nil => cases ht
            | cons z zs =>
              cases z with
              | tuple _ =>
                cases h4 with
                | cons r _ =>
                  cases r with
                  | tup _ _ => exact ⟨_, _, rfl⟩
              | _ => cases ht
          obtain ⟨t, rest, rfl⟩ := hd
          refine ⟨upd G a (.lst (V.ref t :: rest)), fun c o e => ?_, fun c o e => ?_, ?_, fun c o e => ?_, fun c ⟨c1, us', t', rest', c2, c3⟩ => ?_, fun k b' xs h hk => ?_⟩
          · rw [upd_ne (fun e' => by rw [e', h3] at e; cases e)]; exact g1 c o e
          · by_cases hc : c = a
            · subst hc; rw [upd_same] at e; cases e; exact h2
            · rw [upd_ne hc] at e; exact g2 c o e
          · rw [upd_ne haa.symm]; exact g3
          · by_cases hc : c = a
            · subst hc; exact .inr ⟨h3, _, t, rest, upd_same, rfl⟩
            · rw [upd_ne hc] at e
              rcases g4 c o e with z | ⟨z1, us', t', rest', z2, z3⟩
              · exact .inl z
              · exact .inr ⟨z1, us', t', rest', by rw [upd_ne hc]; exact z2, z3⟩
          · by_cases hc : c = a
            · subst hc; exact ⟨_, h2⟩
            · rw [upd_ne hc] at c2; exact g5 c ⟨c1, us', t', rest', c2, c3⟩
          · have gu : Same G (upd G a (.lst (V.ref t :: rest))) := fun c o e => by
              by_cases hc : c = a
              · subst hc
                rcases g4 c o e with z | ⟨_, us', t', rest', z2, z3⟩
                · rw [h3] at z; cases z
                · have q := g2 c o e
                  rw [h2] at q
                  rw [upd_same, q]
              · rw [upd_ne hc]; exact e
            rcases List.mem_cons.mp h with
                                                                                                                          e | h
            · cases e
              rw [hj] at hk
              cases hk
              exact ⟨_, h1, .lst (.inl upd_same) (dps_mono (g1.trans gu) h4)⟩
            · obtain ⟨v, z1, z2⟩ := g6 k b' xs h hk
              exact ⟨v, z1, dp_mono gu z2⟩
theorem Sim.argsS (S : Sim K B σ en F H) {G : Hp} (s : Same F G) : ∀ {as : List Ag} {vs : List V} {ds : List D}, (∀ (j : Nat) (b : Bool) (xs : List D), Ag.slot j ∈ as → en[j]? = some (.own b xs) → ∃ v, σ[j]? = some (some v) ∧ Dp K G v (.list xs)) → AgsR K σ F vs as → agsOf en as = some ds → DpAll K G vs ds
  | [], _, ds, _, .nil, h => by cases h; exact .nil
  | a :: as, _, ds, hG, .cons r rs, h => by
    obtain ⟨x, h1, h2⟩ := Option.bind_eq_some_iff.mp h
    obtain ⟨xs, h3, rfl⟩ := Option.map_eq_some_iff.mp h2
    refine .cons ?_ (Sim.argsS S s (fun j b xs h => hG j b xs (List.mem_cons_of_mem _ h)) rs h3)
    cases r with
    | d r => cases h1; exact dp_mono s r
    | slot r =>
      rename_i i
      unfold agOf at h1
      dsimp only at h1
      split at h1
      · rename_i y hy
        cases h1
        obtain ⟨v, e1, e2⟩ := S.val i _ hy
        rw [r] at e1
        cases e1
        exact dp_mono s e2
      · rename_i b ys hy
        cases h1
        obtain ⟨v, e1, e2⟩ := hG i b ys List.mem_cons_self hy
        rw [r] at e1
        cases e1
        exact e2
      · cases h1
end
section
variable {X : Cx} {W : WX} {e : Expr} {es : List Expr} {x y : Str} {p py pos : Pos} {g : M (List Ag)} {k : Nat} {mb : List D → List D → Option (Out × List D)}
open Classical in
theorem ve_callBL {i : Nat} (C : FnB X.prog X.w X.K X.mg X.base x k mb) (hr : RoomG k X.A) (tk : Takes X W) (ha : VAs X W es g) (hN : X.N[i]? = some y := by rfl) (hv : Vis X.env.scope y := by first | exact Or.inl rfl | exact Or.inr (Or.inl rfl) | exact Or.inr (Or.inr rfl))
    (hd : (y == ("__debug__" : Str)) = false := by decide) (hcd : (y == ("__classdict__" : Str)) = false := by decide)
    (hg : Gl X x := by rfl) (hdb : (x == ("__debug__" : Str)) = false := by decide) (he : starEach (.Name y py :: es) X.env = (false, eval (.Name y py) X.env) :: starEach es X.env := by rfl) (hpl : (backTo pos (starEach es X.env)).any (·.1) = false := by rfl) :
    VE X W (.Call (.Name x p) (.Name y py :: es) [] pos) (vCallBL i mb g) := fun B => by
  obtain ⟨f, fd, ps, FO, hm, hk, hb⟩ := C.ex
  refine peWk (pe_callG (E := WE W) FO hr hg hm hk hb (fun σ => passAt tk σ) (pa_cons (pe_var hN hv hd hcd) (ha B) he) hdb he hpl) fun σ H Q ⟨F, en, S, q⟩ => ?_
  unfold vCallBL ownE at q
  split at q
  case h_2 => exact q.elim
  rename_i b0 xs0 h0
  obtain ⟨a, vs0, e0, l0, f0, _⟩ := S.own i b0 xs0 h0
  refine ⟨_, e0, F, en, S, (Post.bind q).imp fun as en1 F1 H1 S1 s1 q1 us rv => ?_⟩
  by_cases hc : noBag i as = true ∧ lentOk en1 as = true
  case neg => rw [if_neg hc] at q1; exact q1.elim
  rw [if_pos hc] at q1
  cases hds : agsOf en1 as with
  | none => rw [hds] at q1; exact q1.elim
  | some ds =>
    rw [hds] at q1
    dsimp only at q1
    split at q1
    case h_2 => exact q1.elim
    rename_i b xs h1
    obtain ⟨a1, vs, e1, l1, f1, r1, _⟩ := S1.own i b xs h1
    rw [e0] at e1
    cases e1
    obtain ⟨G, g1, g2, g3, g4, g5, g6⟩ := S1.lendS i a (isOwn_out h1) e0 as hc.1 hc.2
    have dv := S1.argsS g1 g6 rv hds
    refine ⟨a, us, vs, xs, G, ds, rfl, l1, g3, g2, dps_mono g1 r1, dv, ?_⟩
    unfold outL at q1
    cases hmm : mb xs ds with
    | none => rw [hmm] at q1; exact q1.elim
    | some o =>
      obtain ⟨o, ys⟩ := o
      rw [hmm] at q1
      cases o with
      | exc c fs => exact q1.elim
      | ret r =>
        intro F' H' v ws' gr h5 h6 hr2
        let F2 : Hp := fun c => if F1 c = none ∧ G c ≠ none then none else F' c
        have d1 : ∀ c o, F' c = some o → F2 c = some o ∨ ∃ us t rest, o = HO.lst us ∧ us = V.ref t :: rest := fun c o e => by
          by_cases hcc : F1 c = none ∧ G c ≠ none
          · cases hg : G c with
            | none => exact absurd hg hcc.2
            | some u =>
              rcases g4 c u hg with z | ⟨_, us, t, rest, z2, z3⟩
              · rw [hcc.1] at z; cases z
              · rw [hg] at z2
                cases z2
                have := gr.ff c _ hg
                rw [e] at this
                cases this
                exact .inr ⟨us, t, rest, rfl, z3⟩
          · exact .inl (by show (if F1 c = none ∧ G c ≠ none then none else F' c) = some o; rw [if_neg hcc]; exact e)
        have d2 : ∀ c o, F2 c = some o → F' c = some o := fun c o e => by
          have e : (if F1 c = none ∧ G c ≠ none then none else F' c) = some o := e
          split at e
          · cases e
          · exact e
        have gr2 : GrB a F1 H1 F2 H' := by
          refine ⟨fun c o e => ?_, fun c o e => gr.fh c o (d2 c o e), gr.hh, fun c o e => ?_⟩
          · show (if F1 c = none ∧ G c ≠ none then none else F' c) = some o
            rw [if_neg (fun z => by rw [z.1] at e; cases e)]
            exact gr.ff c o (g1 c o e)
          · have e' : (if F1 c = none ∧ G c ≠ none then none else F' c) = some o := e
            split at e'
            · cases e'
            · rename_i hn
              rcases gr.nw c o e' with z | z
              · rcases g4 c o z with z2 | ⟨z2, _⟩
                · exact .inl z2
                · exact absurd ⟨z2, by rw [z]; exact fun q => by cases q⟩ hn
              · exact .inr z
        have fin : ys.all farD = true → Sim X.K B σ (en1.set i (.own b ys)) F2 H' := fun hf => S1.grB h1 e0 l1 f1 gr2 h5 (dps_far d1 hf h6)
        cases r with
        | no => exact q1.elim
        | val d =>
          dsimp only at q1
          by_cases hf : flatD d = true ∧ ys.all farD = true
          · rw [if_pos hf] at q1
            exact q1 F2 H' (fin hf.2) gr2.ff v (dp_flat (fun c o e => (d1 c o e).imp id fun ⟨us, _, _, z, _⟩ => ⟨us, z⟩) hf.1 hr2)
          · rw [if_neg hf] at q1; exact q1.elim
        | own b2 zs =>
          obtain ⟨rfl, c, us2, rfl, z1, z2, z3, z4⟩ := hr2
          dsimp only at q1
          by_cases hf : flatDs zs = true ∧ ys.all farD = true
          · rw [if_pos hf] at q1
            refine q1 F2 H' (fin hf.2) gr2.ff _ ⟨rfl, c, us2, rfl, z1, ?_, dps_flat (fun c o e => (d1 c o e).imp id fun ⟨us, _, _, z, _⟩ => ⟨us, z⟩) hf.1 z3, S1.kp.free z4, fun z => S1.z c z z4, fun j hj e => ?_⟩
            · show (if F1 c = none ∧ G c ≠ none then none else F' c) = none
              split
              · rfl
              · exact z2
            · have hj' : isOwn en1 j := by
                rcases isOwn_set hj with ⟨q, _⟩ | ⟨_, q⟩
                · rw [q]; exact isOwn_out h1
                · exact q
              obtain ⟨b3, us3, hj3⟩ := hj'
              obtain ⟨c', _, w1, w2, _⟩ := S1.own j b3 us3 hj3
              rw [e] at w1; cases w1
              rw [z4] at w2; cases w2
          · rw [if_neg hf] at q1; exact q1.elim
end
end Mv

namespace Mv
open L2 PySem.Spec PySem PyProof.Rows

/-! ### repr of data with long numbers (up to 12900 bits), where the limit of digits stands as it began -/
mutual
def tellB : D → Bool
  | .none | .bool _ |
                                                                                                                .str _ => true
  | .int i => decide (i.natAbs.log2 < 12900)
  | .list xs => tellBs xs
  | .tuple xs => tellBs xs
  | .dict _ => false
def tellBs : List D → Bool
  | [] => true
  | x :: xs => tellB x && tellBs xs
end
theorem pow_of_log {a : Int} (h : a.natAbs.log2 < 12900) : a.natAbs < 10 ^ 4300 := Nat.lt_of_lt_of_le (PyProof.Rows.lt_of_log2 h) pow_lo
section
variable {prog :
                                                                                                              Program} {w : World} {h₀ : Heap}
theorem big_call {A : Around} {E : Value → Shared → Prop} {s : Shared} {a : Int} {t : Tok} {Q : Value → Shared → Prop} (nd : s.heap.NoDigits) (ha : a.natAbs < 10 ^ 4300) (q : Q (.str (toString a) s.toks) { s with toks := s.toks + 1 }) :
    wpAny (model prog w) A (call
                                                                                                                  (.builtin "int.__repr__") [.int a t]) Q E s := by
  refine wpAny_call_entry PySem.F.slot_int_repr (typeIs_int s a t) PySem.F.entry_int_repr ?_ (PySem.F.args_int_repr_1 _)
  unfold Builtin.«int.__repr__»
  show wpAny _ _ (do let r ←
                                                                                                                Builtin.overDigitLimit? a; _) _ _ s
  exact wpAny_bind (overDigitLimit_any nd (fun lt => wpAny_bind (wpAny_mkStr (wpAny_pure ⟨_, rfl, q⟩) (int_text_fits10 lt))) fun ge => absurd ha (Nat.not_lt.mpr ge))
theorem big_obj {A : Around} {E : Value → Shared → Prop} {s : Shared} {a : Int} {t : Tok} {Q : Value → Shared → Prop} (nd : s.heap.NoDigits) (ha : a.natAbs < 10 ^ 4300) (q : Q (.str (toString a) s.toks) { s with toks := s.toks + 1 }) :
    wpAny (model prog w) A (pyReprObj (.int a t)) Q E s := by
  have off : [Value.int a t].any Value.onHeap = false := rfl
  unfold pyReprObj
  simp only [cRoomFor, off, Bool.false_eq_true, if_false, pure_bind]
  exact wpAny_bind (wpAny_specialOf (name := Str.ofString "__repr__") (typeIs_int s a t) PySem.F.slot_int_repr.lookup (wpAny_bind (m := callSpecialIfBound? (.int a t) (Str.ofString "__repr__"))
    (wpAny_callSpecialIfBound?_slot (name := Str.ofString "__repr__") (typeIs_int s a t) PySem.F.slot_int_repr (big_call nd ha (wpAny_bind (wpAny_isInstance (T := "str") (b := true) rfl isSubtype_str_str (wpAny_pure q)))))))
theorem big_top {A : Around} {E : Value → Shared → Prop} {s : Shared} {a : Int} {t : Tok} {Q : Value → Shared → Prop} (room : A.units + 1 < cLine) (nd : s.heap.NoDigits) (ha : a.natAbs < 10 ^ 4300) (q : Q (.str (toString a) s.toks) { s with toks := s.toks + 1 }) :
    wpAny (model prog w) A (call (.builtin "repr") [.int a t]) Q E s :=
  call_repr_slot room (typeIs_int s a t) PySem.F.slot_int_repr.toG (big_call nd ha ⟨_, _, rfl, q⟩)
theorem big_leaf {a : Int} {t : Tok} (nd : h₀.NoDigits) (ha : a.natAbs < 10 ^ 4300) (as : List Addr) (n : Nat) : ReprK prog w as h₀ n (.int a t) (toString a) := by
  intro k hz A g E s Q _ _ _ keep q
  rw [pyReprUnder_leaf (v := .int a t) (show k ≤ sizeLine by omega) fun _ e => nomatch e]
  unfold pyRepr
  exact wpAny_bind (big_obj (nd.keeps keep) ha (wpAny_pure (q s.heap _ fun _ _ e => e)))
/-- what is told of one value, of all of some values -/
def Told (prog : Program) (w : World) (h₀ : Heap) (v : Value) (n : Nat) (x : Str) : Prop := ∃ bs, ReadAtMost h₀ n bs ∧ ReprK prog w bs h₀ n v x
def ToldAll (prog : Program) (w : World) (h₀ : Heap) (vs : List Value) (n : Nat) (xs : List Str) : Prop := ∃ bs, ReadAtMost h₀ n bs ∧ ReprAllK prog w bs h₀ n vs xs
theorem told_of {v : Value} {n : Nat} {x : Str} (r : ∀ as : List Addr, ReprK prog w as h₀ n v x) : Told prog w h₀ v n x := ⟨[], (fun _ no => nomatch no), r []⟩
theorem told_cons {v : Value} {vs : List Value} {n m : Nat} {x : Str} {xs : List Str} : Told prog w h₀ v n x → ToldAll prog w h₀ vs m xs → ToldAll prog w h₀ (v :: vs) (max n m) (x :: xs)
  | ⟨bs, r1, k1⟩, ⟨cs, r2, k2⟩ => ⟨bs ++ cs, (r1.mono (Nat.le_max_left n m)).append (r2.mono (Nat.le_max_right n m)),
      .cons ((k1.more fun _ z => List.mem_append_left cs z).level_le (Nat.le_max_left n m)) (k2.more_le (fun _ z => List.mem_append_right bs z) (Nat.le_max_right n m))⟩
theorem told_tuple {a : Addr} {o : Obj} {us : Array Value} {n m : Nat} {ds : List D} {as : List Addr} (ha : h₀.get? a = some o) (hc : o.cls = .type "tuple") (hd : o.data = .seq us n) (rd : Reads h₀ (.ref a) (.tuple ds) as) (hm : PyData.depthAll ds = m) :
    ToldAll prog w h₀ us.toList m (PyData.shownAll ds) → Told prog w h₀ (.ref a) (m + 1) (tupleText (PyData.shownAll ds))
  | ⟨bs, r, k⟩ => by
    have dp : (PyData.tuple ds).depth = m + 1 := by simp only [PyData.depth]; omega
    have off : a ∉ bs := not_mem_of_deeper rd (by omega) r
    exact ⟨a :: bs, dp ▸ ReadAtMost.cons rd (by omega) r, .tuple ha hc hd off k⟩
theorem told_list {a : Addr} {o : Obj} {us : Array Value} {n m : Nat} {ds : List D} {as : List Addr} (ha : h₀.get? a = some o) (hc : o.cls = .type "list") (hd : o.data = .seq us n) (rd : Reads h₀ (.ref a) (.list ds) as) (hm : PyData.depthAll ds = m) (hl : us.toList = [] → ds = []) :
    ToldAll prog w h₀ us.toList m (PyData.shownAll ds) → Told prog w h₀ (.ref a) (m + 1) (listText (PyData.shownAll ds))
  | ⟨bs, r, k⟩ => by
    have dp : (PyData.list ds).depth = m + 1 := by simp only [PyData.depth]; omega
    have off : a ∉ bs := not_mem_of_deeper rd (by omega) r
    refine ⟨a :: bs, dp ▸ ReadAtMost.cons rd (by omega) r, ?_⟩
    obtain ⟨us⟩ := us
    cases us with
    | nil =>
      rw [hl rfl]
      simp only [PyData.shownAll,
                                                                                                                    listText_nil]
      exact .listEmpty ha hc hd
    | cons u us => exact .list ha hc hd off (by simpa using k.length_eq) fun i y e => k.item i y (by simpa using e)
mutual
theorem big_k (nd : h₀.NoDigits) : ∀ {d : D} {v : Value} {as : List Addr}, Reads h₀ v d as → tellB d = true → d.shown.length ≤ sizeLine → Told prog w h₀ v d.depth d.shown
  | .none, _, _, .none, _, _ => told_of fun as => by simp only [PyData.shown]; exact .of_is ReprIs.none as h₀ _
  | .bool b, _, _, .bool _, _, _ => told_of fun as => by simp only [PyData.shown]; exact .of_is (ReprIs.bool b) as h₀ _
  | .int i, _, _, .int _ t, g, _ => told_of fun as => by
    simp only [PyData.shown]
    exact big_leaf nd (pow_of_log (of_decide_eq_true (by simpa only [tellB] using g))) as _
  | .str x, _, _, .str _ t, _, z => told_of fun as => by
    simp only [PyData.shown] at z ⊢
    exact .of_is (ReprIs.str x t z) as h₀ _
  | .list ds, _, _, .list (vs := us) ha hc hd r, g, z => by
    have z' : (listText (PyData.shownAll ds)).length ≤ sizeLine := by simpa only [PyData.shown] using z
    have k := big_ks nd r (by simpa only [tellB] using g) fun x hx => Nat.le_trans (listText_mem_le hx) z'
    have t := told_list ha hc hd (.list ha hc hd r) rfl (fun e => by
      rw [e] at r
      cases r
      rfl) k
    simpa only [PyData.depth, PyData.shown] using t
  | .tuple ds, _, _, .tuple ha hc hd r, g, z => by
    have z' : (tupleText (PyData.shownAll ds)).length ≤ sizeLine := by simpa only [PyData.shown] using z
    have k := big_ks nd r (by simpa only [tellB] using g) fun x hx => Nat.le_trans (tupleText_mem_le hx) z'
    have t := told_tuple ha hc hd (.tuple ha hc hd r) rfl k
    simpa only [PyData.depth, PyData.shown] using t
  | .dict _, _, _, _, g, _ => by simp only [tellB] at g; cases g
theorem big_ks (nd : h₀.NoDigits) : ∀ {ds : List D} {vs : List Value} {as : List Addr}, ReadsAll h₀ vs ds as → tellBs ds = true → (∀ x ∈ PyData.shownAll ds, x.length ≤ sizeLine) → ToldAll prog w h₀ vs (PyData.depthAll ds) (PyData.shownAll ds)
  | [], _, _, .nil, _, _ => ⟨[], (fun _ no => nomatch no), by simp only [PyData.shownAll]; exact .nil⟩
  | d :: ds, _, _, .cons r rs, g, z => by
    have g' : tellB d = true ∧ tellBs ds = true := by simpa only [tellBs, Bool.and_eq_true] using g
    simp only [PyData.shownAll] at z
    have t := told_cons (big_k nd r g'.1 (z _ List.mem_cons_self)) (big_ks nd rs g'.2 fun x hx => z x (List.mem_cons_of_mem _ hx))
    simpa only [PyData.depthAll, PyData.shownAll] using t
end
/-- repr of what stands on the heap -/
theorem big_ref {A : Around} {E : Value → Shared → Prop} {s : Shared} {Q : Value → Shared → Prop} {a : Addr} {d : D} {as : List Addr} (nd : h₀.NoDigits) (r : Reads h₀ (.ref a) d as) (g : tellB d = true) (z : d.shown.length ≤ sizeLine)
    (gs : A.guards = some []) (room : A.units + (d.depth + 1) < cLine) (keep : ∀ b o, h₀.get? b = some o → s.heap.get? b = some o) (q : ∀ h' u tk, (∀ b o, s.heap.get? b = some o → h'.get? b = some o) → Q (.str d.shown u) { s with heap := h', toks := tk }) :
    wpAny (model prog w) A (call (.builtin "repr") [.ref a]) Q E s := by
  have gs1 : A.in1.guards = some [] := gs
  have un1 : A.in1.units = A.units + 1 := rfl
  cases r with
  | @list _ o us n ds as' ha hc hd r =>
    have z' : (listText (PyData.shownAll ds)).length ≤ sizeLine := by simpa only [PyData.shown] using z
    obtain ⟨bs, rb, k⟩ := big_ks (prog := prog) (w := w) nd r (by simpa only [tellB] using g) fun x hx => Nat.le_trans (listText_mem_le hx) z'
    have rd : Reads h₀ (.ref a) (.list ds) _ := .list ha hc hd r
    simp only [PyData.depth] at room
    have off : a ∉ bs := not_mem_of_deeper rd (by simp only [PyData.depth]; omega) rb
    simp only [PyData.shown] at q
    refine call_repr_slot (by omega) ⟨o, keep _ _ ha, hc⟩ PySem.F.slot_list_repr.toG ?_
    obtain ⟨us⟩ := us
    cases us with
    | nil =>
      have r : ReadsAll h₀ [] ds _ := r
      cases r
      simp only [PyData.shownAll, listText_nil] at q
      exact call_list_repr_empty ⟨o, keep _ _ ha, hc⟩ (keep _ _ ha) hd ⟨_, _, rfl, q _ _ _ fun _ _ e => e⟩
    | cons u us =>
      exact call_list_reprK ha hc hd off (by simpa using k.length_eq) (fun i y e => k.item i y (by simpa using e)) gs1 (fun b _ => Clear.nil b) (by omega) keep (fun h' u tk e => ⟨_, _, rfl, q h' u tk e⟩) z'
  | @tuple _ o us n ds as' ha hc hd r =>
    have z' : (tupleText (PyData.shownAll ds)).length ≤ sizeLine := by simpa only [PyData.shown] using z
    obtain ⟨bs, rb, k⟩ := big_ks (prog := prog) (w := w) nd r (by simpa only [tellB] using g) fun x hx => Nat.le_trans (tupleText_mem_le hx) z'
    have rd : Reads h₀ (.ref a) (.tuple ds) _ := .tuple ha hc hd r
    simp only [PyData.depth] at room
    have off : a ∉ bs := not_mem_of_deeper rd (by simp only [PyData.depth]; omega) rb
    simp only [PyData.shown] at q
    refine call_repr_slot (by omega) ⟨o, keep _ _ ha, hc⟩ PySem.F.slot_tuple_repr ?_
    exact call_tuple_reprK ha hc hd off k gs1 (fun b _ => Clear.nil b) (by omega) keep (fun h' u tk e => ⟨_, _, rfl, q h' u tk e⟩) z'
  | dict _ _ _ _ _ => simp only [tellB] at g; cases g
end
def longOk (d : D) : Prop := tellB d = true ∧ d.shown.length ≤ LIM ∧ d.depth ≤ 100
instance (d : D) : Decidable (longOk d) := inferInstanceAs (Decidable (_ ∧ _ ∧ _))
def dReprB : List D → Option Sl
  | [d] => if longOk d then some (.val (.str d.shown)) else none
  | _ => none
mutual
theorem tellB_noDict : ∀ {d : D}, tellB d = true → d.hasDict = false
  | .none, _ => by simp only [PyData.hasDict]
  | .bool _, _ => by simp only [PyData.hasDict]
  | .int _, _ => by simp only [PyData.hasDict]
  | .str _, _ => by simp only [PyData.hasDict]
  | .list _, g => by simp only [PyData.hasDict]; exact tellBs_noDict (by simpa only [tellB] using g)
  | .tuple _, g => by simp only [PyData.hasDict]; exact tellBs_noDict (by simpa only [tellB] using g)
  | .dict _, g => by simp only [tellB] at g; cases g
theorem tellBs_noDict : ∀ {ds : List D}, tellBs ds = true → PyData.hasDictAll ds = false
  | [], _ => by simp only [PyData.hasDictAll]
  | d :: ds, g => by
    have g' : tellB d = true ∧ tellBs ds = true := by simpa only [tellBs, Bool.and_eq_true] using g
    simp only [PyData.hasDictAll, tellB_noDict g'.1, tellBs_noDict g'.2, Bool.or_self]
end
section
variable {X : Cx}
def rReprB (X : Cx) : List V → Hp → VK → Prop := fun xs H Q => ∃ v d F, xs = [v] ∧ Same F H ∧ Dp X.K F v d ∧ longOk d ∧ Q (.str d.shown) H
theorem call_reprB (nd : X.base.NoDigits) (hr : RoomG 0 X.A) : CallR X (.builtin "repr") (rReprB X) := by
  intro pins s σ H xs
  intro us Q I r h
  obtain ⟨v, d, F, rfl, s0, dv, ⟨h1, h2, h3⟩, q⟩ := h
  obtain ⟨u, rfl, ru⟩ : ∃ u, us = [u] ∧ RelV v u := by
    cases r with
    | cons a b => cases b; exact ⟨_, rfl, a⟩
  have hun := hr.r.un
  have hz := lim_line h2
  have nd' : s.heap.NoDigits := nd.keeps I.bk
  have dL := (dp_mono s0 dv).l2 (tellB_noDict h1)
  obtain ⟨as, rd⟩ := Dp.reads I _ _ u dL ru
  cases rd with
  | none => exact PySem.P.repr_of_none ⟨.str _, H, I.tok _, ⟨_, rfl⟩, by simpa only [PyData.shown] using q⟩
  | bool b => exact PySem.P.repr_of_bool ⟨.str _, H, I.tok _, ⟨_, rfl⟩, by simpa only [PyData.shown] using q⟩
  | int i t => exact big_top (by omega) nd' (pow_of_log (of_decide_eq_true (by simpa only [tellB] using h1))) ⟨.str _, H, I.tok _, ⟨_, rfl⟩, by simpa only [PyData.shown] using q⟩
  | str x t => exact PySem.P.repr_of_str ⟨.str _, H, I.tok _, ⟨_, rfl⟩, by simpa only [PyData.shown] using q⟩ (by simpa only [PyData.shown] using hz)
  | list a b c d => exact big_ref nd' (.list a b c d) h1 hz hr.g (by omega) (fun _ _ e => e) fun h' t tk hk => ⟨.str _, H, I.kept hk, ⟨t, rfl⟩, q⟩
  | tuple a b c d => exact big_ref nd' (.tuple a b c d) h1 hz hr.g (by omega) (fun _ _ e => e) fun h' t tk hk => ⟨.str _, H, I.kept hk, ⟨t, rfl⟩, q⟩
  | dict _ _ _ _ _ => simp only [tellB] at h1; cases h1
theorem cv_reprB (nd : X.base.NoDigits) (hr : RoomG 0 X.A) : CV X (.builtin "repr") dReprB := cv_of (call_reprB nd hr) fun xs H Q F as s ra k => by
  unfold dReprB at k
  split at k
  · rename_i d
    obtain ⟨u, rfl, r⟩ := dps1 ra
    split at k
    · rename_i hk
      exact ⟨u, d, F, rfl, s, r, hk, k.val s (.str _)⟩
    · exact k.elim
  · exact k.elim
end
/-! ### the law, called, where the limit of digits stands as it began -/
/-- the law, called: what it answers is True -/
theorem law_callD {P : Program} {w : World} {K : PySem.W.Frag} {mg mb : Str → Option Value} {k : Nat} {fa a : Addr} {fd : FuncData} {x : Str} {m : List D → Option Out} {sh : Shared} {vs : List Value} {ns : List Int}
    (inK : K.In sh.heap) (nsG : sh.heap.Ns mainGlobals mg) (nsB : sh.heap.Ns builtinsNs mb) (boots : ∀ y : Str, y ≠ "__name__" → mb y = bootBuiltins y) (noLim : sh.heap.NoLimit) (noDig : sh.heap.NoDigits) (noGens : sh.gens = #[])
    (scr : sh.heap.get? a = some { cls := .type "list", data := .seq vs.toArray }) (isInts : IntsAre vs ns) (few : ns.length ≤ sizeLine) (room : RoomG k callerA) (nl : noLists K = true)
    (F : ∀ base : Heap, K.In base → base.Ns mainGlobals mg → base.NoDigits → FnG P w K mg base k fa fd [x] (spV K mg m)) (bind : ∀ (s : Shared) (u : Value), BindsTo s fd ⟨[u], []⟩ [(x, u)])
    (ans : m [.list (ns.map .int)] = some (.ret (.val (.bool true)))) :
    codeAny (model P w) callerA (.call (.ref fa) ⟨[.ref a], []⟩) (fun r s' => r = .ok (.ret (.bool true)) ∧ OldK sh.heap s'.heap ∧ s'.os = sh.os ∧ AllBare s'.gens) sh := by
  have rels := vals_ints isInts
  have hka : K.lookup a = none := by
    cases q : K.lookup a with
    | none => rfl
    | some o =>
      have e := inK a o q
      rw [scr] at e
      cases e
      exact (noLists_none nl q rfl).elim
  have at_a : scriptHp a vs ns a = some (.frz { cls := .type "list", data := .seq vs.toArray } (.lst (ns.map V.int))) := if_pos rfl
  have off_a : ∀ {b : Addr}, b ≠ a → scriptHp a vs ns b = none := fun h => if_neg h
  have inBase : ∀ {b : Addr} {o : Obj}, sh.heap.get? b = some o → b ≠ a → (hidT sh.heap (scriptHp a vs ns)).get? b = some o := fun e h => hidT_get e (off_a h)
  have dictBase : ∀ {b : Addr} {m : Str → Option Value}, sh.heap.Ns b m → (hidT sh.heap (scriptHp a vs ns)).Ns b m := fun {b m} ⟨o, es, ep, e, dd, r⟩ => by
    refine ⟨o, es, ep, inBase e fun z => ?_, dd, r⟩
    subst z
    rw [scr] at e
    cases e
    cases (show Data.seq vs.toArray _ = Data.dict es ep from dd)
  have kBase : K.In (hidT sh.heap (scriptHp a vs ns)) := fun b o e => inBase (inK b o e) fun z => by
    subst z
    rw [hka] at e
    cases e
  have md : Mod K mg (hidT sh.heap (scriptHp a vs ns)) := ⟨kBase, dictBase nsG, ⟨mb, dictBase nsB, boots⟩, let ⟨mc, h1, h2⟩ := noLim; ⟨mc, dictBase h1, h2⟩⟩
  have ok : HOk P w (scriptHp a vs ns) sh.heap := fun b u z => by
    by_cases h : b = a
    · subst h
      rw [at_a] at z
      cases z
      exact ⟨scr, by rw [List.length_map]; exact few, vs, _, rels, scr⟩
    · rw [off_a h] at z
      cases z
  have env : Env0 P w K mg (hidT sh.heap (scriptHp a vs ns)) callerA [] sh (scriptHp a vs ns) := ⟨rfl, md, fun b o e => of_hidT e, Nat.le_of_eq (hidT_size _ _), trivial, fun b hb => (List.not_mem_nil hb).elim, ok, .of_eq noGens⟩
  have args : DpAll K (scriptHp a vs ns) [.ref a] [.list (ns.map .int)] := by
    have go : ∀ ms : List Int, DpAll K (scriptHp a vs ns) (ms.map V.int) (ms.map PyData.int) := fun ms => by
      induction ms with
      | nil => exact .nil
      | cons n ms ih => exact .cons (.int n) ih
    exact .cons (.lst (.inr ⟨_, at_a⟩) (go ns)) .nil
  have prom : spV K mg m [.ref a] (scriptHp a vs ns) (fun v _ => v = .bl true) (fun _ _ _ => False) := by
    refine ⟨scriptHp a vs ns, _, .refl _, args, ?_⟩
    rw [ans]
    intro F' H' v g r
    cases (show Dp K F' v (.bool true) from r)
    rfl
  refine codeAny_mono ((F _ kBase (dictBase nsG) (let ⟨mc, h1, h2⟩ := noDig; ⟨mc, dictBase h1, h2⟩)).run callerA [] sh (scriptHp a vs ns) ⟨[.ref a], []⟩ [.ref a] [.ref a] _ _ room env (bind sh (.ref a)) (.cons rfl .nil) prom) fun r s' out => ?_
  cases r with
  | error e =>
    obtain ⟨_, _, _, _, _, _, _, _, _, _, _, _, no⟩ := out
    exact no.elim
  | ok fl =>
    cases fl with
    | next => exact False.elim out
    | brk => exact False.elim out
    | cont => exact False.elim out
    | ret u =>
      obtain ⟨v, H', os, bare, un, ok', ru, q⟩ := out
      cases (show v = V.bl true from q)
      cases (show u = Value.bool true from ru)
      refine ⟨rfl,
                                                                                                                    OldK.of_keep fun b o e => ?_, os, bare⟩
      by_cases h : b = a
      · subst h
        have z2 := un.frzs b _ _ at_a
        obtain ⟨e2, _⟩ := ok' b _ z2
        rw [scr] at e
        cases e
        exact e2
      · exact un.keep b o e (off_a h) (fun z => (List.not_mem_nil z).elim) (by simp)
theorem law_walkD {l : PySem.W.OpenLaw} {n k : Nat} {q : Program} {loose : List Str} {XP : (Str → Option Value) → Heap → Prop} {YP : World → Heap → Prop} {d : DefRec} {K : Params → PySem.W.Frag} {x : Str} {m : List D → Option Out}
    (hn : l.most = some n) (hn2 : n ≤ sizeLine) (hdf : d.params.defaults = []) (room : RoomG k callerA)
    (hY : ∀ (w : World) (h : Heap),
                                                                                                                  YP w h → (K w.params).In h)
    (F : ∀ (w : World) (mg : Str → Option Value) (fa : Addr) (h : Heap),
                                                                                                                  (K w.params).In h → h.Ns mainGlobals mg → mg d.name = some (.ref fa) →
      noLists (K w.params) = true ∧ ∃ fd : FuncData, (∀ (s : Shared) (u : Value), BindsTo s fd ⟨[u], []⟩ [(x, u)]) ∧
        ∀ base : Heap, (K w.params).In base → base.Ns mainGlobals mg → base.NoDigits → FnG l.prog w (K w.params) mg base k fa fd [x] (spV (K w.params) mg m))
    (ans : ∀ ns : List Int, ns.length ≤ n → m [.list (ns.map .int)] = some (.ret (.val (.bool true)))) :
    PySem.W.WalkO q loose XP YP l.row.toRowW d []
                                                                                                                  (fun f vs => PySem.call f vs) := by
  refine Att.attach_call hn hdf fun w s₀ sh mg mb fa o pm cd doc a vs ns G Y ho hd hcd hmg scr isInts few hg => ?_
  have inK := hY w _ Y
  obtain ⟨nl, fd, bind, hF⟩ := F w mg fa _ inK G.T.g hmg
  exact law_callD inK G.T.g G.T.b G.T.builtins G.T.nolimit G.T.nodigits hg scr isInts (Nat.le_trans few hn2) room nl hF bind (ans ns few)
end Mv

namespace Sh
open PySem Mv
/-! ### common -/
def g_common (n : Nat) : MS := sSeq (whileL (vB (vOp (dCmp fun i j => decide (j < i)) (vVar 1) (vC (.int 0)))) (sPar [0, 1] (lCons (vVar 1) (lCons (vOp dMod (vVar 0) (vVar 1)) (lNil)))) n) (sRetV 0)
def m_common : List D → Option Out := runM 2 2 g_common (fun ds => match ds with | [.int _, .int b] => b.natAbs + 2 | _ => 0)
/-! ### reduced -/
def g_reduced (n : Nat) : MS := sSeq (sSet 2 (vCall m_common (vCons (vCb dAbs (vCons (vVar 0) (vNil))) (vCons (vCb dAbs (vCons (vVar 1) (vNil))) (vNil))))) (sSeq (sIf (vB (vOp (dCmp fun i j => decide (i < j)) (vVar 1) (vC (.int 0)))) (sSet 2 (vOp dSub (vC (.int 0)) (vVar 2))) (sNil)) (sRet (vTup (vCons (vOp dFdiv (vVar 0) (vVar 2)) (vCons (vOp dFdiv (vVar 1) (vVar 2)) (vNil))))))
def m_reduced : List D → Option Out := runM 2 3 g_reduced (fun _ => 0)
/-! ### added -/
def g_added (n : Nat) : MS := sSeq (sSet 1 (vC (.tuple [(.int 0), (.int 1)]))) (sSeq (sFor (vItems (vVar 0)) (pTup (pCons (pNm 2) (pCons (pNm 3) (pNil)))) (sSet 1 (vCall m_reduced (vCons (vOp dAdd (vOp dMul (vIxv 1 (vC (.int 0))) (vVar 3)) (vOp dMul (vVar 2) (vIxv 1 (vC (.int 1))))) (vCons (vOp dMul (vIxv 1 (vC (.int 1))) (vVar 3)) (vNil)))))) (sRetV 1))
def m_added : List D → Option Out := runM 1 4 g_added (fun _ => 0)
/-! ### less -/
def g_less (n : Nat) : MS := sRet (vCall m_reduced (vCons (vOp dSub (vOp dMul (vIxv 0 (vC (.int 0))) (vIxv 1 (vC (.int 1)))) (vOp dMul (vIxv 1 (vC (.int 0))) (vIxv 0 (vC (.int 1))))) (vCons (vOp dMul (vIxv 0 (vC (.int 1))) (vIxv 1 (vC (.int 1)))) (vNil))))
def m_less : List D → Option Out := runM 2 2 g_less (fun _ => 0)
/-! ### times -/
def g_times (n : Nat) : MS := sRet (vCall m_reduced (vCons (vOp dMul (vIxv 0 (vC (.int 0))) (vIxv 1 (vC (.int 0)))) (vCons (vOp dMul (vIxv 0 (vC (.int 1))) (vIxv 1 (vC (.int 1)))) (vNil))))
def m_times : List D → Option Out := runM 2 2 g_times (fun _ => 0)
/-! ### compared -/
def g_compared (n : Nat) : MS := sSeq (sPar [2, 3] (lCons (vOp dMul (vIxv 0 (vC (.int 0))) (vIxv 1 (vC (.int 1)))) (lCons (vOp dMul (vIxv 1 (vC (.int 0))) (vIxv 0 (vC (.int 1)))) (lNil)))) (sRet (vOp dSub (vCb dInt (vCons (vOp (dCmp fun i j => decide (j < i)) (vVar 2) (vVar 3)) (vNil))) (vCb dInt (vCons (vOp (dCmp fun i j => decide (i < j)) (vVar 2) (vVar 3)) (vNil)))))
def m_compared : List D → Option Out := runM 2 4 g_compared (fun _ => 0)
/-! ### greatest_of -/
def g_greatest_of (n : Nat) : MS := sSeq (sSet 1 (vIxv 0 (vC (.int 0)))) (sSeq (sFor (vItems (vSl (vVar 0) (oSome (vC (.int 1))) (oNone))) (pNm 2) (sSet 1 (vIf (vB (vOp (dCmp fun i j => decide (j < i)) (vCall m_compared (vCons (vVar 2) (vCons (vVar 1) (vNil)))) (vC (.int 0)))) (vVar 2) (vVar 1)))) (sRetV 1))
def m_greatest_of : List D → Option Out := runM 1 3 g_greatest_of (fun _ => 0)
/-! ### is_small -/
def g_is_small (n : Nat) : MS := sRet (vOp (dCmp fun i j => decide (i ≤ j)) (vCall m_compared (vCons (vCall m_times (vCons (vTup (vCons (vC (.int 2)) (vCons (vC (.int 1)) (vNil)))) (vCons (vVar 0) (vNil)))) (vCons (vVar 1) (vNil)))) (vC (.int 0)))
def m_is_small : List D → Option Out := runM 2 2 g_is_small (fun _ => 0)
/-! ### closes -/
def g_closes (n : Nat) : MS := sSeq (sSet 1 (vCall m_added (vCons (vLc (vItems (vVar 0)) (pTup (pCons (pNm 2) (pCons (pNm 3) (pNil)))) (bYes) (vVar 3) [2, 3]) (vNil)))) (sRet (vCb dAll (vCons (vLc (vItems (vVar 0)) (pTup (pCons (pNm 2) (pCons (pNm 3) (pNil)))) (bYes) (vOp (dCmp fun i j => decide (i ≤ j)) (vCall m_compared (vCons (vVar 2) (vCons (vCall m_less (vCons (vVar 1) (vCons (vVar 3) (vNil)))) (vNil)))) (vC (.int 0))) [2, 3]) (vNil))))
def m_closes : List D → Option Out := runM 1 4 g_closes (fun _ => 0)
/-! ### heaps_of -/
def g_heaps_of (n : Nat) : MS := sSeq (sSet 1 (vCall m_added (vCons (vVar 0) (vNil)))) (sSeq (sIf (bNot (vB (vCb dAll (vCons (vLc (vItems (vVar 0)) (pNm 5) (bYes) (vCall m_is_small (vCons (vVar 5) (vCons (vVar 1) (vNil)))) [5]) (vNil))))) (sRet (vC .none)) (sNil)) (sSeq (sPar [2, 3, 4] (lCons (vLst (vNil)) (lCons (vC (.tuple [(.int 0), (.int 1)])) (lCons (vC (.int 0)) (lNil))))) (sSeq (sFor (vItems (vVar 0)) (pNm 5) (sSeq (sSet 3 (vCall m_added (vCons (vLst (vCons (vVar 3) (vCons (vVar 5) (vNil)))) (vNil)))) (sIf (bAnd (vB (vOp dEq (vVar 4) (vC (.int 0)))) (vB (vOp (dCmp fun i j => decide (j ≤ i)) (vCall m_compared (vCons (vCall m_times (vCons (vTup (vCons (vC (.int 2)) (vCons (vC (.int 1)) (vNil)))) (vCons (vVar 3) (vNil)))) (vCons (vVar 1) (vNil)))) (vC (.int 0))))) (sSeq (sApp 2 (vC (.int 1))) (sSet 4 (vC (.int 2)))) (sApp 2 (vVar 4))))) (sRet (vCb dTuple (vCons (vVar 2) (vNil)))))))
def m_heaps_of : List D → Option Out := runM 1 6 g_heaps_of (fun _ => 0)
/-! ### closing -/
def g_closing (n : Nat) : MS := sSeq (sIf (bNot (vB (vCall m_closes (vCons (vVar 0) (vNil))))) (sRet (vC .none)) (sNil)) (sSeq (sSet 1 (vLc (vItems (vVar 0)) (pTup (pCons (pNm 5) (pCons (pNm 6) (pNil)))) (bYes) (vVar 6) [5, 6])) (sSeq (sPar [2, 3] (lCons (vCall m_added (vCons (vVar 1) (vNil))) (lCons (vLst (vNil)) (lNil)))) (sSeq (sFor (vItems (vVar 1)) (pNm 4) (sApp 3 (vIf (vB (vCall m_is_small (vCons (vVar 4) (vCons (vVar 2) (vNil))))) (vVar 4) (vCall m_less (vCons (vVar 2) (vCons (vVar 4) (vNil))))))) (sRet (vTup (vCons (vCb dTuple (vCons (vVar 3) (vNil))) (vCons (vCall m_heaps_of (vCons (vCb dTuple (vCons (vVar 3) (vNil))) (vNil))) (vNil))))))))
def m_closing : List D → Option Out := runM 1 7 g_closing (fun _ => 0)
/-! ### reach_of -/
def g_reach_of (n : Nat) : MS := sSeq (sSet 1 (vCall m_added (vCons (vLc (vItems (vVar 0)) (pTup (pCons (pNm 3) (pCons (pNm 4) (pNil)))) (bYes) (vVar 4) [3, 4]) (vNil)))) (sSeq (sSet 2 (vLc (vItems (vVar 0)) (pTup (pCons (pNm 3) (pCons (pNm 4) (pNil)))) (bYes) (vCall m_less (vCons (vVar 3) (vCons (vCall m_less (vCons (vVar 1) (vCons (vVar 4) (vNil)))) (vNil)))) [3, 4])) (sRet (vTup (vCons (vCall m_greatest_of (vCons (vLst (vCons (vC (.tuple [(.int 0), (.int 1)])) (vStar (vVar 2) (vNil)))) (vNil))) (vCons (vVar 1) (vNil))))))
def m_reach_of : List D → Option Out := runM 1 5 g_reach_of (fun _ => 0)
/-! ### way_to -/
def g_way_to (n : Nat) : MS := sRet (vCall m_closing (vCons (vTup (vStar (vVar 0) (vCons (vTup (vCons (vVar 1) (vCons (vVar 1) (vNil)))) (vNil)))) (vNil)))
def m_way_to : List D → Option Out := runM 2 2 g_way_to (fun _ => 0)
/-! ### _law_bag -/
def g__law_bag (n : Nat) : MS := sRet (vLst (vCons (vC (.int 0)) (vCons (vC (.int 1234567891)) (vCons (vC (.int 0)) (vCons (vLc (vItems (vSl (vVar 0) (oNone) (oSome (vC (.int 63))))) (pNm 1) (bYes) (vCb dAbs (vCons (vVar 1) (vNil))) [1]) (vNil))))))
def m__law_bag : List D → Option Out := runM 1 2 g__law_bag (fun _ => 0)
/-! ### _law_take -/
def g__law_take (n : Nat) : MS := sSeq (sIf (vB (vOp dEq (vIxv 0 (vC (.int 0))) (vC (.int 0)))) (sSeq (sSet 2 (vOp dIx (vOp dAdd (vSl (vIxv 0 (vC (.int 3))) (oSome (vIxv 0 (vC (.int 2)))) (oNone)) (vLst (vCons (vC (.int 0)) (vNil)))) (vC (.int 0)))) (sSeq (sAugS 0 (fun i j => i + j) (vC (.int 2)) (vC (.int 1))) (sSeq (sIf (vB (vOp (dCmp fun i j => decide (j ≤ i)) (vVar 2) (vOp dPow (vC (.int 10)) (vC (.int 18))))) (sStore 0 (vC (.int 0)) (vVar 2)) (sNil)) (sSeq (sSet 3 (vOp dAdd (vOp dAdd (vOp dMul (vIxv 0 (vC (.int 1))) (vC (.int 48271))) (vOp dMod (vCb dInt (vCons (vVar 2) (vNil))) (vC (.int 2147483647)))) (vOp dMul (vC (.int 7919)) (vIxv 0 (vC (.int 2)))))) (sStore 0 (vC (.int 1)) (vOp dMod (vCb dInt (vCons (vVar 3) (vNil))) (vC (.int 2147483647)))))))) (sNil)) (sSeq (sIf (vB (vOp (dCmp fun i j => decide (j < i)) (vIxv 0 (vC (.int 0))) (vC (.int 0)))) (sSeq (sSet 4 (vOp dMod (vCb dInt (vCons (vIxv 0 (vC (.int 0))) (vNil))) (vVar 1))) (sSeq (sStore 0 (vC (.int 0)) (vOp dFdiv (vCb dInt (vCons (vIxv 0 (vC (.int 0))) (vNil))) (vVar 1))) (sRetV 4))) (sNil)) (sSeq (sSet 5 (vOp dMod (vCb dInt (vCons (vOp dMul (vOp dAdd (vIxv 0 (vC (.int 1))) (vC (.int 1))) (vC (.int 39373))) (vNil))) (vC (.int 1000000007)))) (sSeq (sSet 6 (vOp dMod (vCb dInt (vCons (vOp dMul (vOp dMod (vCb dInt (vCons (vOp dMul (vVar 5) (vVar 5)) (vNil))) (vC (.int 998244353))) (vC (.int 30011))) (vNil))) (vC (.int 998244353)))) (sRet (vOp dMod (vCb dInt (vCons (vOp dFdiv (vVar 6) (vC (.int 7))) (vNil))) (vVar 1))))))
def m__law_take : List D → List D → Option (Out × List D) := runB 2 7 g__law_take (fun _ _ => 0)
/-! ### _law_one -/
def g__law_one (n : Nat) : MS := sRet (vIxv 1 (vCallB 0 m__law_take (vCons (vLenv 1) (vNil))))
def m__law_one : List D → List D → Option (Out × List D) := runB 2 2 g__law_one (fun _ _ => 0)
/-! ### _law_alike -/
def g__law_alike (n : Nat) : MS := sRet (vAnd (vOp dEq (vVar 0) (vVar 1)) (vOp dEq (vCb dRepr (vCons (vVar 0) (vNil))) (vCb dRepr (vCons (vVar 1) (vNil)))))
def m__law_alike : List D → Option Out := runM 2 2 g__law_alike (fun _ => 0)
/-! ### _law_shared -/
def g__law_shared (n : Nat) : MS := sSeq (sPar [0, 1] (lCons (vCb dAbs (vCons (vVar 0) (vNil))) (lCons (vCb dAbs (vCons (vVar 1) (vNil))) (lNil)))) (sSeq (whileL (vB (vOp dNe (vVar 1) (vC (.int 0)))) (sPar [0, 1] (lCons (vVar 1) (lCons (vOp dMod (vCb dInt (vCons (vVar 0) (vNil))) (vVar 1)) (lNil)))) n) (sRetV 0))
def m__law_shared : List D → Option Out := runM 2 2 g__law_shared (fun ds => match ds with | [.int _, .int b] => b.natAbs + 2 | _ => 0)
/-! ### _law_ratio -/
def g__law_ratio (n : Nat) : MS := sSeq (sSet 2 (vOp dMul (vCall m__law_shared (vCons (vVar 0) (vCons (vVar 1) (vNil)))) (vIf (vB (vOp (dCmp fun i j => decide (j < i)) (vVar 1) (vC (.int 0)))) (vC (.int 1)) (vUn dNeg (vC (.int 1)))))) (sRet (vTup (vCons (vOp dFdiv (vCb dInt (vCons (vVar 0) (vNil))) (vVar 2)) (vCons (vOp dFdiv (vCb dInt (vCons (vVar 1) (vNil))) (vVar 2)) (vNil)))))
def m__law_ratio : List D → Option Out := runM 2 3 g__law_ratio (fun _ => 0)
/-! ### _law_plus -/
def g__law_plus (n : Nat) : MS := sSeq (sPar [1, 2] (lCons (vC (.int 0)) (lCons (vC (.int 1)) (lNil)))) (sSeq (sFor (vItems (vVar 0)) (pNm 3) (sPar [1, 2] (lCons (vOp dAdd (vOp dMul (vVar 1) (vIxv 3 (vC (.int 1)))) (vOp dMul (vIxv 3 (vC (.int 0))) (vVar 2))) (lCons (vOp dMul (vVar 2) (vIxv 3 (vC (.int 1)))) (lNil))))) (sRet (vCall m__law_ratio (vCons (vVar 1) (vCons (vVar 2) (vNil))))))
def m__law_plus : List D → Option Out := runM 1 4 g__law_plus (fun _ => 0)
/-! ### _law_minus -/
def g__law_minus (n : Nat) : MS := sRet (vCall m__law_ratio (vCons (vOp dSub (vOp dMul (vIxv 0 (vC (.int 0))) (vIxv 1 (vC (.int 1)))) (vOp dMul (vIxv 1 (vC (.int 0))) (vIxv 0 (vC (.int 1))))) (vCons (vOp dMul (vIxv 0 (vC (.int 1))) (vIxv 1 (vC (.int 1)))) (vNil))))
def m__law_minus : List D → Option Out := runM 2 2 g__law_minus (fun _ => 0)
/-! ### _law_by -/
def g__law_by (n : Nat) : MS := sRet (vCall m__law_ratio (vCons (vOp dMul (vIxv 0 (vC (.int 0))) (vIxv 1 (vC (.int 0)))) (vCons (vOp dMul (vIxv 0 (vC (.int 1))) (vIxv 1 (vC (.int 1)))) (vNil))))
def m__law_by : List D → Option Out := runM 2 2 g__law_by (fun _ => 0)
/-! ### _law_over -/
def g__law_over (n : Nat) : MS := sRet (vCall m__law_ratio (vCons (vOp dMul (vIxv 0 (vC (.int 0))) (vIxv 1 (vC (.int 1)))) (vCons (vOp dMul (vIxv 0 (vC (.int 1))) (vIxv 1 (vC (.int 0)))) (vNil))))
def m__law_over : List D → Option Out := runM 2 2 g__law_over (fun _ => 0)
/-! ### _law_below -/
def g__law_below (n : Nat) : MS := sRet (vOp (dCmp fun i j => decide (i < j)) (vOp dMul (vIxv 0 (vC (.int 0))) (vIxv 1 (vC (.int 1)))) (vOp dMul (vIxv 1 (vC (.int 0))) (vIxv 0 (vC (.int 1)))))
def m__law_below : List D → Option Out := runM 2 2 g__law_below (fun _ => 0)
/-! ### _law_highest -/
def g__law_highest (n : Nat) : MS := sSeq (sSet 1 (vIxv 0 (vC (.int 0)))) (sSeq (sFor (vItems (vVar 0)) (pNm 2) (sSet 1 (vIf (vB (vCall m__law_below (vCons (vVar 1) (vCons (vVar 2) (vNil))))) (vVar 2) (vVar 1)))) (sRetV 1))
def m__law_highest : List D → Option Out := runM 1 3 g__law_highest (fun _ => 0)
/-! ### _law_integer -/
def g__law_integer (n : Nat) : MS := sRet (vAnd (vUn (isiD "int") (vVar 0)) (vNot (vUn (isiD "bool") (vVar 0))))
def m__law_integer : List D → Option Out := runM 1 1 g__law_integer (fun _ => 0)
/-! ### _law_is_fraction -/
def g__law_is_fraction (n : Nat) : MS := sSeq (sIf (bOr (bNot (vB (vUn (isiD "tuple") (vVar 0)))) (bOr (vB (vOp dNe (vLenv 0) (vC (.int 2)))) (bOr (bNot (vB (vCall m__law_integer (vCons (vIxv 0 (vC (.int 0))) (vNil))))) (bNot (vB (vCall m__law_integer (vCons (vIxv 0 (vC (.int 1))) (vNil)))))))) (sRet (vC (.bool false))) (sNil)) (sRet (vAnd (vOp (dCmp fun i j => decide (j < i)) (vIxv 0 (vC (.int 1))) (vC (.int 0))) (vOp dEq (vCall m__law_shared (vCons (vIxv 0 (vC (.int 0))) (vCons (vIxv 0 (vC (.int 1))) (vNil)))) (vC (.int 1)))))
def m__law_is_fraction : List D → Option Out := runM 1 1 g__law_is_fraction (fun _ => 0)
/-! ### _law_is_sizes -/
def g__law_is_sizes (n : Nat) : MS := sSeq (sIf (bOr (bNot (vB (vUn (isiD "tuple") (vVar 1)))) (vB (vOp dNe (vLenv 1) (vVar 0)))) (sRet (vC (.bool false))) (sNil)) (sRet (vOp dEq (vLc (vItems (vVar 1)) (pNm 2) (bOr (bNot (vB (vCall m__law_is_fraction (vCons (vVar 2) (vNil))))) (vB (vOp (dCmp fun i j => decide (i < j)) (vIxv 2 (vC (.int 0))) (vC (.int 0))))) (vVar 2) [2]) (vLst (vNil))))
def m__law_is_sizes : List D → Option Out := runM 2 3 g__law_is_sizes (fun _ => 0)
/-! ### _law_bounds -/
def g__law_bounds (n : Nat) : MS := sSeq (sSet 2 (vCallB 0 m__law_one (vCons (vLst (vCons (vC (.int 1)) (vCons (vC (.int 2)) (vCons (vC (.int 0)) (vCons (vVar 1) (vCons (vCallB 0 m__law_take (vCons (vOp dAdd (vVar 1) (vC (.int 1))) (vNil))) (vNil))))))) (vNil)))) (sSeq (sSet 3 (vCallB 0 m__law_one (vCons (vLst (vCons (vVar 2) (vCons (vOp dAdd (vVar 2) (vC (.int 1))) (vCons (vVar 2) (vCons (vVar 1) (vCons (vOp dMul (vC (.int 2)) (vVar 2)) (vCons (vOp dAdd (vVar 2) (vCallB 0 m__law_take (vCons (vC (.int 4)) (vNil)))) (vNil)))))))) (vNil)))) (sSeq (sPar [2, 3] (lCons (vCb dMin (vCons (vVar 2) (vCons (vVar 1) (vNil)))) (lCons (vCb dMin (vCons (vVar 3) (vCons (vVar 1) (vNil)))) (lNil)))) (sRet (vTup (vCons (vCb dMin (vCons (vVar 2) (vCons (vVar 3) (vNil)))) (vCons (vCb dMax (vCons (vVar 2) (vCons (vVar 3) (vNil)))) (vNil)))))))
def m__law_bounds : List D → List D → Option (Out × List D) := runB 2 4 g__law_bounds (fun _ _ => 0)
/-! ### _law_spans -/
def g__law_spans (n : Nat) : MS := sSeq (sSet 3 (vLst (vNil))) (sSeq (sFor (vRng1 (vCons (vVar 1) (vNil))) (pNm 4) (sSeq (sSet 5 (vCallB 0 m__law_one (vCons (vLst (vCons (vC (.int 1)) (vCons (vC (.int 1)) (vCons (vC (.int 2)) (vCons (vC (.int 3)) (vCons (vC (.int 6)) (vNil))))))) (vNil)))) (sSeq (sAsg (pTup (pCons (pNm 6) (pCons (pNm 7) (pNil)))) (vCallB 0 m__law_bounds (vCons (vVar 2) (vNil)))) (sApp 3 (vTup (vCons (vCall m__law_ratio (vCons (vVar 6) (vCons (vVar 5) (vNil)))) (vCons (vCall m__law_ratio (vCons (vVar 7) (vCons (vVar 5) (vNil)))) (vNil)))))))) (sRet (vCb dTuple (vCons (vVar 3) (vNil)))))
def m__law_spans : List D → List D → Option (Out × List D) := runB 3 8 g__law_spans (fun _ _ => 0)
/-! ### _law_heaps_hold -/
def g__law_heaps_hold (n : Nat) : MS := sSeq (sIf (bOr (bNot (vB (vUn (isiD "tuple") (vVar 1)))) (vB (vOp dNe (vLenv 1) (vLenv 0)))) (sRet (vC (.bool false))) (sNil)) (sSeq (sIf (vB (vOp dNe (vLc (vItems (vVar 1)) (pNm 5) (bOr (bNot (vB (vCall m__law_integer (vCons (vVar 5) (vNil))))) (vB (vOp dNotIn (vVar 5) (vTup (vCons (vC (.int 0)) (vCons (vC (.int 1)) (vCons (vC (.int 2)) (vNil)))))))) (vVar 5) [5]) (vLst (vNil)))) (sRet (vC (.bool false))) (sNil)) (sSeq (sSet 2 (vLc (vItems (vTup (vCons (vC (.int 0)) (vCons (vC (.int 1)) (vCons (vC (.int 2)) (vNil)))))) (pNm 4) (bYes) (vCall m__law_plus (vCons (vLc (vZip (vCons (vVar 0) (vCons (vVar 1) (vNil)))) (pTup (pCons (pNm 7) (pCons (pNm 5) (pNil)))) (vB (vOp dEq (vVar 5) (vVar 4))) (vVar 7) [7, 5]) (vNil))) [4])) (sSeq (sSet 3 (vCall m__law_plus (vCons (vVar 2) (vNil)))) (sRet (vOp dEq (vLc (vItems (vVar 2)) (pNm 6) (vB (vCall m__law_below (vCons (vVar 3) (vCons (vCall m__law_plus (vCons (vLst (vCons (vVar 6) (vCons (vVar 6) (vNil)))) (vNil))) (vNil))))) (vVar 6) [6]) (vLst (vNil)))))))
def m__law_heaps_hold : List D → Option Out := runM 2 8 g__law_heaps_hold (fun _ => 0)
/-! ### _law_is_closing -/
def g__law_is_closing (n : Nat) : MS := sSeq (sIf (bOr (bNot (vB (vUn (isiD "tuple") (vVar 1)))) (bOr (vB (vOp dNe (vLenv 1) (vC (.int 2)))) (bNot (vB (vCall m__law_is_sizes (vCons (vLenv 0) (vCons (vIxv 1 (vC (.int 0))) (vNil)))))))) (sRet (vC (.bool false))) (sNil)) (sSeq (sFor (vZip (vCons (vIxv 1 (vC (.int 0))) (vCons (vVar 0) (vNil)))) (pTup (pCons (pNm 2) (pCons (pNm 3) (pNil)))) (sIf (bOr (vB (vCall m__law_below (vCons (vVar 2) (vCons (vIxv 3 (vC (.int 0))) (vNil))))) (vB (vCall m__law_below (vCons (vIxv 3 (vC (.int 1))) (vCons (vVar 2) (vNil)))))) (sRet (vC (.bool false))) (sNil))) (sRet (vCall m__law_heaps_hold (vCons (vIxv 1 (vC (.int 0))) (vCons (vIxv 1 (vC (.int 1))) (vNil))))))
def m__law_is_closing : List D → Option Out := runM 2 4 g__law_is_closing (fun _ => 0)
/-! ### _law_turned -/
def g__law_turned (n : Nat) : MS := sSeq (sFor (vRng1 (vCons (vVar 1) (vNil))) (pNm 2) (sSet 0 (vTup (vCons (vUn dNeg (vIxv 0 (vC (.int 1)))) (vCons (vIxv 0 (vC (.int 0))) (vNil)))))) (sRetV 0)
def m__law_turned : List D → Option Out := runM 2 3 g__law_turned (fun _ => 0)
/-! ### _law_scaled -/
def g__law_scaled (n : Nat) : MS := sSeq (sSet 2 (vCallB 0 m__law_one (vCons (vLst (vCons (vTup (vCons (vC (.int 1)) (vCons (vC (.int 1)) (vNil)))) (vCons (vTup (vCons (vC (.int 1)) (vCons (vC (.int 1)) (vNil)))) (vCons (vTup (vCons (vC (.int 999999937)) (vCons (vC (.int 1)) (vNil)))) (vCons (vTup (vCons (vC (.int 1)) (vCons (vC (.int 7)) (vNil)))) (vCons (vTup (vCons (vC (.int 3)) (vCons (vC (.int 10)) (vNil)))) (vCons (vTup (vCons (vOp dPow (vC (.int 10)) (vC (.int 30))) (vCons (vC (.int 7)) (vNil)))) (vNil)))))))) (vNil)))) (sRet (vTup (vCons (vCb dTuple (vCons (vLc (vItems (vVar 1)) (pTup (pCons (pNm 3) (pCons (pNm 4) (pNil)))) (bYes) (vTup (vCons (vCall m__law_by (vCons (vVar 3) (vCons (vVar 2) (vNil)))) (vCons (vCall m__law_by (vCons (vVar 4) (vCons (vVar 2) (vNil)))) (vNil)))) [3, 4]) (vNil))) (vCons (vVar 2) (vNil)))))
def m__law_scaled : List D → List D → Option (Out × List D) := runB 2 5 g__law_scaled (fun _ _ => 0)
/-! ### _law_reach -/
def g__law_reach (n : Nat) : MS := sSeq (sPar [1, 2] (lCons (vLst (vCons (vTup (vCons (vC (.int 0)) (vCons (vC (.int 1)) (vNil)))) (vNil))) (lCons (vCall m__law_plus (vCons (vLc (vItems (vVar 0)) (pNm 4) (bYes) (vIxv 4 (vC (.int 1))) [4]) (vNil))) (lNil)))) (sSeq (sFor (vEnum (vCons (vVar 0) (vNil))) (pTup (pCons (pNm 3) (pCons (pNm 4) (pNil)))) (sApp 1 (vCall m__law_minus (vCons (vIxv 4 (vC (.int 0))) (vCons (vCall m__law_minus (vCons (vVar 2) (vCons (vIxv 4 (vC (.int 1))) (vNil)))) (vNil)))))) (sRet (vTup (vCons (vCall m__law_highest (vCons (vVar 1) (vNil))) (vCons (vVar 2) (vNil))))))
def m__law_reach : List D → Option Out := runM 1 5 g__law_reach (fun _ => 0)
/-! ### _law_is_within -/
def g__law_is_within (n : Nat) : MS := sSeq (sPar [3, 4] (lCons (vTup (vCons (vC (.int 0)) (vCons (vC (.int 1)) (vNil)))) (lCons (vTup (vCons (vC (.int 0)) (vCons (vC (.int 1)) (vNil)))) (lNil)))) (sSeq (sFor (vItems (vVar 1)) (pNm 5) (sSeq (sSet 6 (vTup (vCons (vCallB 0 m__law_take (vCons (vC (.int 7)) (vNil))) (vCons (vC (.int 6)) (vNil))))) (sSeq (sSet 7 (vCall m__law_plus (vCons (vLst (vCons (vIxv 5 (vC (.int 0))) (vCons (vCall m__law_by (vCons (vCall m__law_ratio (vCons (vIxv 6 (vC (.int 0))) (vCons (vIxv 6 (vC (.int 1))) (vNil)))) (vCons (vCall m__law_minus (vCons (vIxv 5 (vC (.int 1))) (vCons (vIxv 5 (vC (.int 0))) (vNil)))) (vNil)))) (vNil)))) (vNil)))) (sSeq (sSet 8 (vCall m__law_turned (vCons (vTup (vCons (vC (.int 1)) (vCons (vC (.int 0)) (vNil)))) (vCons (vCallB 0 m__law_take (vCons (vC (.int 4)) (vNil))) (vNil))))) (sSeq (sSet 3 (vCall m__law_plus (vCons (vLst (vCons (vVar 3) (vCons (vCall m__law_by (vCons (vVar 7) (vCons (vTup (vCons (vIxv 8 (vC (.int 0))) (vCons (vC (.int 1)) (vNil)))) (vNil)))) (vNil)))) (vNil)))) (sSet 4 (vCall m__law_plus (vCons (vLst (vCons (vVar 4) (vCons (vCall m__law_by (vCons (vVar 7) (vCons (vTup (vCons (vIxv 8 (vC (.int 1))) (vCons (vC (.int 1)) (vNil)))) (vNil)))) (vNil)))) (vNil))))))))) (sSeq (sSet 9 (vCall m__law_plus (vCons (vLst (vCons (vCall m__law_by (vCons (vVar 3) (vCons (vVar 3) (vNil)))) (vCons (vCall m__law_by (vCons (vVar 4) (vCons (vVar 4) (vNil)))) (vNil)))) (vNil)))) (sRet (vAnd (vNot (vCall m__law_below (vCons (vVar 9) (vCons (vCall m__law_by (vCons (vIxv 2 (vC (.int 0))) (vCons (vIxv 2 (vC (.int 0))) (vNil)))) (vNil))))) (vNot (vCall m__law_below (vCons (vCall m__law_by (vCons (vIxv 2 (vC (.int 1))) (vCons (vIxv 2 (vC (.int 1))) (vNil)))) (vCons (vVar 9) (vNil)))))))))
def m__law_is_within : List D → List D → Option (Out × List D) := runB 3 10 g__law_is_within (fun _ _ => 0)
/-! ### least_of -/
def g_least_of (n : Nat) : MS := sSeq (sSet 1 (vIxv 0 (vC (.int 0)))) (sSeq (sFor (vItems (vSl (vVar 0) (oSome (vC (.int 1))) (oNone))) (pNm 2) (sSet 1 (vIf (vB (vOp (dCmp fun i j => decide (i < j)) (vCall m_compared (vCons (vVar 2) (vCons (vVar 1) (vNil)))) (vC (.int 0)))) (vVar 2) (vVar 1)))) (sRetV 1))
def m_least_of : List D → Option Out := runM 1 3 g_least_of (fun _ => 0)
/-! ### span_left -/
def g_span_left (n : Nat) : MS := sSeq (sAsg (pTup (pCons (pNm 2) (pCons (pNm 3) (pNil)))) (vCall m_reach_of (vCons (vOp dAdd (vSl (vVar 0) (oNone) (oSome (vVar 1))) (vSl (vVar 0) (oSome (vOp dAdd (vVar 1) (vC (.int 1)))) (oNone))) (vNil)))) (sSeq (sSet 4 (vTup (vCons (vCall m_greatest_of (vCons (vLst (vCons (vOp dIx (vIxv 0 (vVar 1)) (vC (.int 0))) (vCons (vVar 2) (vNil)))) (vNil))) (vCons (vCall m_least_of (vCons (vLst (vCons (vOp dIx (vIxv 0 (vVar 1)) (vC (.int 1))) (vCons (vVar 3) (vNil)))) (vNil))) (vNil))))) (sRet (vIf (vB (vOp (dCmp fun i j => decide (i ≤ j)) (vCall m_compared (vCons (vIxv 4 (vC (.int 0))) (vCons (vIxv 4 (vC (.int 1))) (vNil)))) (vC (.int 0)))) (vVar 4) (vC .none))))
def m_span_left : List D → Option Out := runM 2 5 g_span_left (fun _ => 0)
/-! ### spans_left -/
def g_spans_left (n : Nat) : MS := sSeq (sIf (bNot (vB (vCall m_closes (vCons (vVar 0) (vNil))))) (sRet (vC .none)) (sNil)) (sRet (vCb dTuple (vCons (vLc (vRng1 (vCons (vLenv 0) (vNil))) (pNm 1) (bYes) (vCall m_span_left (vCons (vVar 0) (vCons (vVar 1) (vNil)))) [1]) (vNil))))
def m_spans_left : List D → Option Out := runM 1 2 g_spans_left (fun _ => 0)
/-! ### _law_mixed -/
def g__law_mixed (n : Nat) : MS := sSeq (sSet 2 (vLst (vNil))) (sSeq (sFor (vItems (vVar 1)) (pNm 3) (sIns 2 (vCons (vCallB 0 m__law_take (vCons (vOp dAdd (vLenv 2) (vC (.int 1))) (vNil))) (vCons (vVar 3) (vNil))))) (sRetV 2))
def m__law_mixed : List D → List D → Option (Out × List D) := runB 2 4 g__law_mixed (fun _ _ => 0)
/-! ### _law_closes -/
def g__law_closes (n : Nat) : MS := sSeq (sFor (vEnum (vCons (vVar 0) (vNil))) (pTup (pCons (pNm 1) (pCons (pNm 2) (pNil)))) (sSeq (sSet 3 (vCall m__law_plus (vCons (vLc (vEnum (vCons (vVar 0) (vNil))) (pTup (pCons (pNm 4) (pCons (pNm 5) (pNil)))) (vB (vOp dNe (vVar 4) (vVar 1))) (vIxv 5 (vC (.int 1))) [4, 5]) (vNil)))) (sIf (vB (vCall m__law_below (vCons (vVar 3) (vCons (vIxv 2 (vC (.int 0))) (vNil))))) (sRet (vC (.bool false))) (sNil)))) (sRet (vC (.bool true)))
def m__law_closes : List D → Option Out := runM 1 6 g__law_closes (fun _ => 0)
/-! ### _law_is_spans -/
def g__law_is_spans (n : Nat) : MS := sSeq (sIf (bNot (vB (vUn (isiD "tuple") (vVar 0)))) (sRet (vC (.bool false))) (sNil)) (sSeq (sFor (vItems (vVar 0)) (pNm 1) (sSeq (sIf (bOr (bNot (vB (vUn (isiD "tuple") (vVar 1)))) (bOr (vB (vOp dNe (vLenv 1) (vC (.int 2)))) (bOr (bNot (vB (vCall m__law_is_fraction (vCons (vIxv 1 (vC (.int 0))) (vNil))))) (bNot (vB (vCall m__law_is_fraction (vCons (vIxv 1 (vC (.int 1))) (vNil)))))))) (sRet (vC (.bool false))) (sNil)) (sIf (bOr (vB (vOp (dCmp fun i j => decide (i < j)) (vOp dIx (vIxv 1 (vC (.int 0))) (vC (.int 0))) (vC (.int 0)))) (vB (vCall m__law_below (vCons (vIxv 1 (vC (.int 1))) (vCons (vIxv 1 (vC (.int 0))) (vNil)))))) (sRet (vC (.bool false))) (sNil)))) (sRet (vC (.bool true))))
def m__law_is_spans : List D → Option Out := runM 1 2 g__law_is_spans (fun _ => 0)
/-! ### _law_with_span -/
def g__law_with_span (n : Nat) : MS := sRet (vOp dAdd (vOp dAdd (vSl (vVar 0) (oNone) (oSome (vVar 1))) (vTup (vCons (vTup (vCons (vVar 2) (vCons (vVar 2) (vNil)))) (vNil)))) (vSl (vVar 0) (oSome (vOp dAdd (vVar 1) (vC (.int 1)))) (oNone)))
def m__law_with_span : List D → Option Out := runM 3 3 g__law_with_span (fun _ => 0)
/-! ### _law_is_left -/
def g__law_is_left (n : Nat) : MS := sSeq (sIf (bOr (bNot (vB (vUn (isiD "tuple") (vVar 2)))) (bOr (vB (vOp dNe (vLenv 2) (vC (.int 2)))) (bNot (vB (vCall m__law_is_spans (vCons (vTup (vCons (vVar 2) (vNil))) (vNil))))))) (sRet (vC (.bool false))) (sNil)) (sSeq (sAsg (pTup (pCons (pNm 4) (pCons (pNm 5) (pNil)))) (vVar 2)) (sSeq (sIf (bOr (vB (vCall m__law_below (vCons (vVar 4) (vCons (vOp dIx (vIxv 0 (vVar 1)) (vC (.int 0))) (vNil))))) (vB (vCall m__law_below (vCons (vOp dIx (vIxv 0 (vVar 1)) (vC (.int 1))) (vCons (vVar 5) (vNil)))))) (sRet (vC (.bool false))) (sNil)) (sSeq (sFor (vItems (vTup (vCons (vVar 4) (vCons (vVar 5) (vCons (vCall m__law_over (vCons (vCall m__law_plus (vCons (vLst (vCons (vVar 4) (vCons (vVar 5) (vNil)))) (vNil))) (vCons (vTup (vCons (vC (.int 2)) (vCons (vC (.int 1)) (vNil)))) (vNil)))) (vNil)))))) (pNm 6) (sSeq (sSet 7 (vCall m__law_with_span (vCons (vVar 0) (vCons (vVar 1) (vCons (vVar 6) (vNil)))))) (sIf (bOr (bNot (vB (vCall m__law_closes (vCons (vVar 7) (vNil))))) (bOr (vB (vOp dIsnt (vCall m_closes (vCons (vVar 7) (vNil))) (vC (.bool true)))) (bNot (vB (vCall m__law_is_closing (vCons (vVar 7) (vCons (vCall m_closing (vCons (vVar 7) (vNil))) (vNil)))))))) (sRet (vC (.bool false))) (sNil)))) (sSeq (sSet 8 (vCall m__law_by (vCons (vTup (vCons (vC (.int 1)) (vCons (vC (.int 600)) (vNil)))) (vCons (vVar 3) (vNil))))) (sSeq (sFor (vItems (vTup (vCons (vCall m__law_minus (vCons (vVar 4) (vCons (vVar 8) (vNil)))) (vCons (vCall m__law_plus (vCons (vLst (vCons (vVar 5) (vCons (vVar 8) (vNil)))) (vNil))) (vCons (vOp dIx (vIxv 0 (vVar 1)) (vC (.int 0))) (vCons (vOp dIx (vIxv 0 (vVar 1)) (vC (.int 1))) (vNil))))))) (pNm 6) (sSeq (sSet 9 (vOr (vCall m__law_below (vCons (vVar 6) (vCons (vVar 4) (vNil)))) (vCall m__law_below (vCons (vVar 5) (vCons (vVar 6) (vNil)))))) (sSeq (sSet 10 (vAnd (vNot (vCall m__law_below (vCons (vVar 6) (vCons (vOp dIx (vIxv 0 (vVar 1)) (vC (.int 0))) (vNil))))) (vNot (vCall m__law_below (vCons (vOp dIx (vIxv 0 (vVar 1)) (vC (.int 1))) (vCons (vVar 6) (vNil))))))) (sIf (bAnd (vB (vVar 9)) (bAnd (vB (vVar 10)) (vB (vCall m__law_closes (vCons (vCall m__law_with_span (vCons (vVar 0) (vCons (vVar 1) (vCons (vVar 6) (vNil))))) (vNil)))))) (sRet (vC (.bool false))) (sNil))))) (sRet (vC (.bool true))))))))
def m__law_is_left : List D → Option Out := runM 4 11 g__law_is_left (fun _ => 0)
end Sh

namespace Sh
open PySem Mv
def t1_boxes_to (n : Nat) : M Bool := vB (vOp dEq (vVar 3) (vVar 1))
def e1_boxes_to (n : Nat) : M Sl := vTup (vCons (vVar 2) (vCons (vVar 4) (vCons (vVar 5) (vNil))))
/-! ### boxes_to -/
def g_boxes_to (n : Nat) : MS := sRet (vLc (vItems (vIxv 0 (vC (.int 1)))) (pTup (pCons (pNm 2) (pCons (pNm 3) (pCons (pNm 4) (pCons (pNm 5) (pNil)))))) (t1_boxes_to n) (e1_boxes_to n) [2, 3, 4, 5])
def m_boxes_to : List D → Option Out := runM 2 6 g_boxes_to (fun _ => 0)
def t1_input_at (n : Nat) : M Bool := vB (vOp dEq (vVar 3) (vVar 1))
def e1_input_at (n : Nat) : M Sl := vTup (vCons (vVar 4) (vCons (vVar 5) (vNil)))
/-! ### input_at -/
def g_input_at (n : Nat) : MS := sSeq (sSet 2 (vLc (vItems (vIxv 0 (vC (.int 2)))) (pTup (pCons (pNm 3) (pCons (pNm 4) (pCons (pNm 5) (pNil))))) (t1_input_at n) (e1_input_at n) [3, 4, 5])) (sRet (vIf (vB (vOp dNe (vVar 2) (vLst (vNil)))) (vIxv 2 (vC (.int 0))) (vC .none)))
def m_input_at : List D → Option Out := runM 2 6 g_input_at (fun _ => 0)
def b1_spans_at (n : Nat) : MS := sApp 3 (vTup (vCons (vCall m_times (vCons (vVar 5) (vCons (vIxv 1 (vVar 4)) (vNil)))) (vCons (vCall m_times (vCons (vVar 6) (vCons (vIxv 1 (vVar 4)) (vNil)))) (vNil))))
/-! ### spans_at -/
def g_spans_at (n : Nat) : MS := sSeq (sSet 3 (vLst (vNil))) (sSeq (sFor (vItems (vCall m_boxes_to (vCons (vVar 0) (vCons (vVar 2) (vNil))))) (pTup (pCons (pNm 4) (pCons (pNm 5) (pCons (pNm 6) (pNil))))) (b1_spans_at n)) (sSeq (sSet 7 (vCall m_input_at (vCons (vVar 0) (vCons (vVar 2) (vNil))))) (sRet (vIf (vB (vOp dIs (vVar 7) (vC .none))) (vCb dTuple (vCons (vVar 3) (vNil))) (vTup (vStar (vVar 3) (vCons (vVar 7) (vNil))))))))
def m_spans_at : List D → Option Out := runM 3 8 g_spans_at (fun _ => 0)
def e1_next_range (n : Nat) : M Sl := vCall m_reach_of (vCons (vCall m_spans_at (vCons (vVar 0) (vCons (vVar 1) (vCons (vVar 2) (vNil))))) (vNil))
/-! ### next_range -/
def g_next_range (n : Nat) : MS := sRet (vLc (vRng1 (vCons (vIxv 0 (vC (.int 0))) (vNil))) (pNm 2) (bYes) (e1_next_range n) [2])
def m_next_range : List D → Option Out := runM 2 3 g_next_range (fun _ => 0)
def b1_follows (n : Nat) : MS := sIf (bOr (vB (vOp (dCmp fun i j => decide (i < j)) (vCall m_compared (vCons (vVar 5) (vCons (vVar 3) (vNil)))) (vC (.int 0)))) (vB (vOp (dCmp fun i j => decide (j < i)) (vCall m_compared (vCons (vVar 5) (vCons (vVar 4) (vNil)))) (vC (.int 0))))) (sRet (vC (.bool false))) (sNil)
/-! ### follows -/
def g_follows (n : Nat) : MS := sSeq (sFor (vZip (vCons (vCall m_next_range (vCons (vVar 0) (vCons (vVar 1) (vNil)))) (vCons (vVar 2) (vNil)))) (pTup (pCons (pTup (pCons (pNm 3) (pCons (pNm 4) (pNil)))) (pCons (pNm 5) (pNil)))) (b1_follows n)) (sRet (vC (.bool true)))
def m_follows : List D → Option Out := runM 3 6 g_follows (fun _ => 0)
def e1__law_sizes (n : Nat) : M Sl := vCallB 0 m__law_one (vCons (vLst (vCons (vC (.int 1)) (vCons (vC (.int 0)) (vCons (vC (.int 2)) (vCons (vC (.int 3)) (vCons (vC (.int 5)) (vCons (vC (.int 7)) (vCons (vCallB 0 m__law_take (vCons (vC (.int 30)) (vNil))) (vNil))))))))) (vNil))
def e2__law_sizes (n : Nat) : M Sl := vCall m__law_ratio (vCons (vVar 4) (vCons (vCallB 0 m__law_one (vCons (vLst (vCons (vC (.int 1)) (vCons (vC (.int 1)) (vCons (vC (.int 2)) (vCons (vC (.int 3)) (vNil)))))) (vNil))) (vNil)))
/-! ### _law_sizes -/
def g__law_sizes (n : Nat) : MS := sSeq (sSet 2 (vLc (vRng1 (vCons (vVar 1) (vNil))) (pNm 3) (bYes) (e1__law_sizes n) [3])) (sRet (vCb dTuple (vCons (vLc (vItems (vVar 2)) (pNm 4) (bYes) (e2__law_sizes n) [4]) (vNil))))
def m__law_sizes : List D → List D → Option (Out × List D) := runB 2 5 g__law_sizes (fun _ _ => 0)
/-! ### _law_some_bound -/
def g__law_some_bound (n : Nat) : MS := sSeq (sSet 1 (vLst (vCons (vTup (vCons (vC (.int 0)) (vCons (vC (.int 1)) (vNil)))) (vCons (vTup (vCons (vC (.int 1)) (vCons (vC (.int 1)) (vNil)))) (vCons (vTup (vCons (vC (.int 2)) (vCons (vC (.int 1)) (vNil)))) (vCons (vTup (vCons (vC (.int 1)) (vCons (vC (.int 2)) (vNil)))) (vCons (vTup (vCons (vC (.int 3)) (vCons (vC (.int 1)) (vNil)))) (vCons (vTup (vCons (vC (.int 1)) (vCons (vC (.int 3)) (vNil)))) (vCons (vTup (vCons (vC (.int 3)) (vCons (vC (.int 2)) (vNil)))) (vCons (vTup (vCons (vC (.int 5)) (vCons (vC (.int 4)) (vNil)))) (vCons (vTup (vCons (vC (.int 1)) (vCons (vC (.int 1)) (vNil)))) (vCons (vTup (vCons (vC (.int 1)) (vCons (vC (.int 4)) (vNil)))) (vNil))))))))))))) (sRet (vCallB 0 m__law_one (vCons (vOp dAdd (vVar 1) (vLst (vCons (vCall m__law_ratio (vCons (vCallB 0 m__law_take (vCons (vC (.int 10)) (vNil))) (vCons (vOp dAdd (vC (.int 1)) (vCallB 0 m__law_take (vCons (vC (.int 4)) (vNil)))) (vNil)))) (vNil)))) (vNil))))
def m__law_some_bound : List D → List D → Option (Out × List D) := runB 1 2 g__law_some_bound (fun _ _ => 0)
/-! ### _law_some_span -/
def g__law_some_span (n : Nat) : MS := sSeq (sPar [1, 2] (lCons (vCallB 0 m__law_some_bound (vNil)) (lCons (vCallB 0 m__law_some_bound (vNil)) (lNil)))) (sSeq (sIf (vB (vOp dEq (vCallB 0 m__law_take (vCons (vC (.int 4)) (vNil))) (vC (.int 0)))) (sRet (vTup (vCons (vVar 1) (vCons (vVar 1) (vNil))))) (sNil)) (sRet (vIf (vB (vCall m__law_below (vCons (vVar 2) (vCons (vVar 1) (vNil))))) (vTup (vCons (vVar 2) (vCons (vVar 1) (vNil)))) (vTup (vCons (vVar 1) (vCons (vVar 2) (vNil)))))))
def m__law_some_span : List D → List D → Option (Out × List D) := runB 1 3 g__law_some_span (fun _ _ => 0)
def b1__law_net (n : Nat) : MS := sApp 4 (vOp dAdd (vTup (vCons (vCallB 0 m__law_take (vCons (vVar 3) (vNil))) (vCons (vCallB 0 m__law_take (vCons (vVar 3) (vNil))) (vNil)))) (vCallB 0 m__law_some_span (vNil)))
def b2__law_net (n : Nat) : MS := sIf (vB (vOp dEq (vCallB 0 m__law_take (vCons (vC (.int 2)) (vNil))) (vC (.int 0)))) (sApp 5 (vOp dAdd (vTup (vCons (vVar 7) (vNil))) (vCallB 0 m__law_some_span (vNil)))) (sNil)
/-! ### _law_net -/
def g__law_net (n : Nat) : MS := sSeq (sPar [3, 4, 5] (lCons (vOp dAdd (vCallB 0 m__law_take (vCons (vVar 1) (vNil))) (vC (.int 1))) (lCons (vLst (vNil)) (lCons (vLst (vNil)) (lNil))))) (sSeq (sFor (vRng1 (vCons (vCallB 0 m__law_take (vCons (vOp dAdd (vVar 2) (vC (.int 1))) (vNil))) (vNil))) (pNm 6) (b1__law_net n)) (sSeq (sSet 4 (vOp dAdd (vVar 4) (vSlv 4 (oNone) (oSome (vCb dInt (vCons (vOp dEq (vCallB 0 m__law_take (vCons (vC (.int 5)) (vNil))) (vC (.int 0))) (vNil))))))) (sSeq (sFor (vRng1 (vCons (vVar 3) (vNil))) (pNm 7) (b2__law_net n)) (sRet (vTup (vCons (vVar 3) (vCons (vCb dTuple (vCons (vCallB 0 m__law_mixed (vCons (vVar 4) (vNil))) (vNil))) (vCons (vCb dTuple (vCons (vCallB 0 m__law_mixed (vCons (vVar 5) (vNil))) (vNil))) (vNil)))))))))
def m__law_net : List D → List D → Option (Out × List D) := runB 3 8 g__law_net (fun _ _ => 0)
def t1__law_boxes_to (n : Nat) : M Bool := vB (vOp dEq (vIxv 2 (vC (.int 1))) (vVar 1))
/-! ### _law_boxes_to -/
def g__law_boxes_to (n : Nat) : MS := sRet (vLc (vItems (vIxv 0 (vC (.int 1)))) (pNm 2) (t1__law_boxes_to n) (vVar 2) [2])
def m__law_boxes_to : List D → Option Out := runM 2 3 g__law_boxes_to (fun _ => 0)
def t1__law_inputs (n : Nat) : M Bool := vB (vOp dEq (vIxv 2 (vC (.int 0))) (vVar 1))
def e1__law_inputs (n : Nat) : M Sl := vSlv 2 (oSome (vC (.int 1))) (oNone)
/-! ### _law_inputs -/
def g__law_inputs (n : Nat) : MS := sRet (vLc (vItems (vIxv 0 (vC (.int 2)))) (pNm 2) (t1__law_inputs n) (e1__law_inputs n) [2])
def m__law_inputs : List D → Option Out := runM 2 3 g__law_inputs (fun _ => 0)
def t1__law_reach_v2 (n : Nat) : M Bool := vB (vOp dNe (vVar 4) (vVar 2))
def b1__law_reach_v2 (n : Nat) : MS := sApp 1 (vCall m__law_minus (vCons (vIxv 3 (vC (.int 0))) (vCons (vCall m__law_plus (vCons (vLc (vEnum (vCons (vVar 0) (vNil))) (pTup (pCons (pNm 4) (pCons (pNm 5) (pNil)))) (t1__law_reach_v2 n) (vIxv 5 (vC (.int 1))) [4, 5]) (vNil))) (vNil))))
/-! ### _law_reach -/
def g__law_reach_v2 (n : Nat) : MS := sSeq (sSet 1 (vLst (vCons (vTup (vCons (vC (.int 0)) (vCons (vC (.int 1)) (vNil)))) (vNil)))) (sSeq (sFor (vEnum (vCons (vVar 0) (vNil))) (pTup (pCons (pNm 2) (pCons (pNm 3) (pNil)))) (b1__law_reach_v2 n)) (sRet (vTup (vCons (vCall m__law_highest (vCons (vVar 1) (vNil))) (vCons (vCall m__law_plus (vCons (vLc (vItems (vVar 0)) (pNm 3) (bYes) (vIxv 3 (vC (.int 1))) [3]) (vNil))) (vNil))))))
def m__law_reach_v2 : List D → Option Out := runM 1 6 g__law_reach_v2 (fun _ => 0)
def e1__law_net_spans (n : Nat) : M Sl := vTup (vCons (vCall m__law_by (vCons (vIxv 4 (vC (.int 2))) (vCons (vIxv 2 (vIxv 4 (vC (.int 0)))) (vNil)))) (vCons (vCall m__law_by (vCons (vIxv 4 (vC (.int 3))) (vCons (vIxv 2 (vIxv 4 (vC (.int 0)))) (vNil)))) (vNil)))
/-! ### _law_net_spans -/
def g__law_net_spans (n : Nat) : MS := sSeq (sSet 3 (vLc (vItems (vCall m__law_boxes_to (vCons (vVar 0) (vCons (vVar 1) (vNil))))) (pNm 4) (bYes) (e1__law_net_spans n) [4])) (sRet (vOp dAdd (vVar 3) (vCall m__law_inputs (vCons (vVar 0) (vCons (vVar 1) (vNil))))))
def m__law_net_spans : List D → Option Out := runM 3 5 g__law_net_spans (fun _ => 0)
def e1__law_next (n : Nat) : M Sl := vCall m__law_reach_v2 (vCons (vCall m__law_net_spans (vCons (vVar 0) (vCons (vVar 2) (vCons (vVar 1) (vNil))))) (vNil))
/-! ### _law_next -/
def g__law_next (n : Nat) : MS := sRet (vLc (vRng1 (vCons (vIxv 0 (vC (.int 0))) (vNil))) (pNm 2) (bYes) (e1__law_next n) [2])
def m__law_next : List D → Option Out := runM 2 3 g__law_next (fun _ => 0)
/-! ### _law_within -/
def g__law_within (n : Nat) : MS := sRet (vAnd (vNot (vCall m__law_below (vCons (vVar 1) (vCons (vIxv 0 (vC (.int 0))) (vNil))))) (vNot (vCall m__law_below (vCons (vIxv 0 (vC (.int 1))) (vCons (vVar 1) (vNil))))))
def m__law_within : List D → Option Out := runM 2 2 g__law_within (fun _ => 0)
def t1__law_follow (n : Nat) : M Bool := bNot (vB (vCall m__law_within (vCons (vVar 3) (vCons (vVar 4) (vNil)))))
/-! ### _law_follow -/
def g__law_follow (n : Nat) : MS := sRet (vOp dEq (vLc (vZip (vCons (vCall m__law_next (vCons (vVar 0) (vCons (vVar 1) (vNil)))) (vCons (vVar 2) (vNil)))) (pTup (pCons (pNm 3) (pCons (pNm 4) (pNil)))) (t1__law_follow n) (vC (.int 1)) [3, 4]) (vLst (vNil)))
def m__law_follow : List D → Option Out := runM 3 5 g__law_follow (fun _ => 0)
/-! ### _law_mean -/
def g__law_mean (n : Nat) : MS := sSeq (sAsg (pTup (pCons (pNm 2) (pCons (pNm 3) (pNil)))) (vVar 1)) (sSeq (sSet 4 (vCallB 0 m__law_one (vCons (vLst (vCons (vTup (vCons (vC (.int 0)) (vCons (vC (.int 1)) (vNil)))) (vCons (vTup (vCons (vC (.int 1)) (vCons (vC (.int 1)) (vNil)))) (vCons (vTup (vCons (vC (.int 1)) (vCons (vC (.int 2)) (vNil)))) (vCons (vTup (vCons (vC (.int 1)) (vCons (vC (.int 3)) (vNil)))) (vCons (vTup (vCons (vC (.int 3)) (vCons (vC (.int 4)) (vNil)))) (vNil))))))) (vNil)))) (sRet (vCall m__law_plus (vCons (vLst (vCons (vVar 2) (vCons (vCall m__law_by (vCons (vVar 4) (vCons (vCall m__law_minus (vCons (vVar 3) (vCons (vVar 2) (vNil)))) (vNil)))) (vNil)))) (vNil)))))
def m__law_mean : List D → List D → Option (Out × List D) := runB 2 5 g__law_mean (fun _ _ => 0)
def b1__law_beyond (n : Nat) : MS := sSeq (sAsg (pTup (pCons (pNm 6) (pCons (pNm 7) (pNil)))) (vIxv 1 (vVar 5))) (sSeq (sIf (bAnd (vB (vOp (dCmp fun i j => decide (j < i)) (vIxv 6 (vC (.int 0))) (vC (.int 0)))) (vB (vOp dEq (vCallB 0 m__law_take (vCons (vC (.int 2)) (vNil))) (vC (.int 0))))) (sStore 3 (vVar 5) (vCall m__law_by (vCons (vVar 6) (vCons (vCallB 0 m__law_one (vCons (vLst (vCons (vTup (vCons (vC (.int 99)) (vCons (vC (.int 100)) (vNil)))) (vCons (vTup (vCons (vC (.int 1)) (vCons (vC (.int 2)) (vNil)))) (vCons (vTup (vCons (vC (.int 0)) (vCons (vC (.int 1)) (vNil)))) (vNil))))) (vNil))) (vNil))))) (sStore 3 (vVar 5) (vCall m__law_plus (vCons (vLst (vCons (vVar 7) (vCons (vCallB 0 m__law_one (vCons (vLst (vCons (vTup (vCons (vC (.int 1)) (vCons (vC (.int 100)) (vNil)))) (vCons (vTup (vCons (vC (.int 1)) (vCons (vC (.int 1)) (vNil)))) (vCons (vTup (vCons (vC (.int 7)) (vCons (vC (.int 2)) (vNil)))) (vNil))))) (vNil))) (vNil)))) (vNil))))) (sRet (vCb dTuple (vCons (vVar 3) (vNil)))))
/-! ### _law_beyond -/
def g__law_beyond (n : Nat) : MS := sSeq (sPar [3, 4] (lCons (vCb dList (vCons (vVar 2) (vNil))) (lCons (vCallB 0 m__law_mixed (vCons (vListR (vLenv 2)) (vNil))) (lNil)))) (sSeq (sFor (vItems (vVar 4)) (pNm 5) (b1__law_beyond n)) (sRet (vC .none)))
def m__law_beyond : List D → List D → Option (Out × List D) := runB 3 8 g__law_beyond (fun _ _ => 0)
end Sh

namespace Sh
open PySem Mv
/-! ### is_integer -/
def g_is_integer (n : Nat) : MS := sRet (vAnd (vUn (isiD "int") (vVar 0)) (vNot (vUn (isiD "bool") (vVar 0))))
def m_is_integer : List D → Option Out := runM 1 1 g_is_integer (fun _ => 0)
/-! ### is_tuple_of -/
def g_is_tuple_of (n : Nat) : MS := sRet (vAnd (vUn (isiD "tuple") (vVar 0)) (vOp dEq (vLenv 0) (vVar 1)))
def m_is_tuple_of : List D → Option Out := runM 2 2 g_is_tuple_of (fun _ => 0)
/-! ### is_fraction -/
def g_is_fraction (n : Nat) : MS := sSeq (sIf (bOr (bNot (vB (vCall m_is_tuple_of (vCons (vVar 0) (vCons (vC (.int 2)) (vNil)))))) (bOr (bNot (vB (vCall m_is_integer (vCons (vIxv 0 (vC (.int 0))) (vNil))))) (bNot (vB (vCall m_is_integer (vCons (vIxv 0 (vC (.int 1))) (vNil))))))) (sRet (vC (.bool false))) (sNil)) (sRet (vAnd (vOp (dCmp fun i j => decide (j < i)) (vIxv 0 (vC (.int 1))) (vC (.int 0))) (vOp dEq (vCall m_common (vCons (vCb dAbs (vCons (vIxv 0 (vC (.int 0))) (vNil))) (vCons (vIxv 0 (vC (.int 1))) (vNil)))) (vC (.int 1)))))
def m_is_fraction : List D → Option Out := runM 1 1 g_is_fraction (fun _ => 0)
def e1_is_sizes (n : Nat) : M Sl := vAnd (vCall m_is_fraction (vCons (vVar 2) (vNil))) (vOp (dCmp fun i j => decide (j ≤ i)) (vIxv 2 (vC (.int 0))) (vC (.int 0)))
/-! ### is_sizes -/
def g_is_sizes (n : Nat) : MS := sRet (vAnd (vCall m_is_tuple_of (vCons (vVar 1) (vCons (vVar 0) (vNil)))) (vCb dAll (vCons (vLc (vItems (vVar 1)) (pNm 2) (bYes) (e1_is_sizes n) [2]) (vNil))))
def m_is_sizes : List D → Option Out := runM 2 3 g_is_sizes (fun _ => 0)
def e1_is_course (n : Nat) : M Sl := vCall m_is_sizes (vCons (vIxv 0 (vC (.int 0))) (vCons (vVar 4) (vNil)))
def e2_is_course (n : Nat) : M Sl := vCall m_follows (vCons (vVar 0) (vCons (vVar 2) (vCons (vVar 3) (vNil))))
/-! ### is_course -/
def g_is_course (n : Nat) : MS := sSeq (sIf (bOr (bNot (vB (vUn (isiD "list") (vVar 1)))) (bOr (vB (vOp dEq (vVar 1) (vLst (vNil)))) (bNot (vB (vCb dAll (vCons (vLc (vItems (vVar 1)) (pNm 4) (bYes) (e1_is_course n) [4]) (vNil))))))) (sRet (vC (.bool false))) (sNil)) (sRet (vCb dAll (vCons (vLc (vZip (vCons (vVar 1) (vCons (vSlv 1 (oSome (vC (.int 1))) (oNone)) (vNil)))) (pTup (pCons (pNm 2) (pCons (pNm 3) (pNil)))) (bYes) (e2_is_course n) [2, 3]) (vNil))))
def m_is_course : List D → Option Out := runM 2 5 g_is_course (fun _ => 0)
def t1__law_is_course (n : Nat) : M Bool := bNot (vB (vCall m__law_is_sizes (vCons (vIxv 0 (vC (.int 0))) (vCons (vVar 2) (vNil)))))
def t2__law_is_course (n : Nat) : M Bool := bNot (vB (vCall m__law_follow (vCons (vVar 0) (vCons (vVar 2) (vCons (vVar 3) (vNil))))))
/-! ### _law_is_course -/
def g__law_is_course (n : Nat) : MS := sSeq (sIf (bOr (bNot (vB (vUn (isiD "list") (vVar 1)))) (bOr (vB (vOp dEq (vVar 1) (vLst (vNil)))) (vB (vOp dNe (vLc (vItems (vVar 1)) (pNm 2) (t1__law_is_course n) (vC (.int 1)) [2]) (vLst (vNil)))))) (sRet (vC (.bool false))) (sNil)) (sRet (vOp dEq (vLc (vZip (vCons (vVar 1) (vCons (vSlv 1 (oSome (vC (.int 1))) (oNone)) (vNil)))) (pTup (pCons (pNm 2) (pCons (pNm 3) (pNil)))) (t2__law_is_course n) (vC (.int 1)) [2, 3]) (vLst (vNil))))
def m__law_is_course : List D → Option Out := runM 2 4 g__law_is_course (fun _ => 0)
def e1__law_gone (n : Nat) : M Sl := vCallB 0 m__law_mean (vCons (vVar 6) (vNil))
def b1__law_gone (n : Nat) : MS := sApp 4 (vCb dTuple (vCons (vLc (vItems (vCall m__law_next (vCons (vVar 1) (vCons (vIxv 4 (vUn dNeg (vC (.int 1)))) (vNil))))) (pNm 6) (bYes) (e1__law_gone n) [6]) (vNil)))
/-! ### _law_gone -/
def g__law_gone (n : Nat) : MS := sSeq (sSet 4 (vLst (vCons (vVar 2) (vNil)))) (sSeq (sFor (vRng1 (vCons (vVar 3) (vNil))) (pNm 5) (b1__law_gone n)) (sRetV 4))
def m__law_gone : List D → List D → Option (Out × List D) := runB 4 7 g__law_gone (fun _ _ => 0)
def b1__law_near (n : Nat) : MS := sApp 5 (vOp dAdd (vOp dAdd (vSlv 2 (oNone) (oSome (vVar 3))) (vLst (vCons (vOp dAdd (vOp dAdd (vSlv 4 (oNone) (oSome (vVar 6))) (vTup (vCons (vVar 7) (vNil)))) (vSlv 4 (oSome (vOp dAdd (vVar 6) (vC (.int 1)))) (oNone))) (vNil)))) (vSlv 2 (oSome (vOp dAdd (vVar 3) (vC (.int 1)))) (oNone)))
/-! ### _law_near -/
def g__law_near (n : Nat) : MS := sSeq (sSet 3 (vCallB 0 m__law_take (vCons (vLenv 2) (vNil)))) (sSeq (sSet 4 (vIxv 2 (vVar 3))) (sSeq (sSet 5 (vLst (vCons (vVar 2) (vCons (vUn dRev (vVar 2)) (vCons (vSlv 2 (oSome (vC (.int 1))) (oNone)) (vCons (vSlv 2 (oNone) (oSome (vC (.int 1)))) (vCons (vOp dAdd (vVar 2) (vSlv 2 (oNone) (oSome (vC (.int 1))))) (vCons (vCb dTuple (vCons (vVar 2) (vNil))) (vCons (vLst (vNil)) (vCons (vC .none) (vCons (vIxv 2 (vC (.int 0))) (vCons (vOp dAdd (vLst (vCons (vCb dList (vCons (vVar 4) (vNil))) (vNil))) (vSlv 2 (oSome (vC (.int 1))) (oNone))) (vNil))))))))))))) (sSeq (sIf (vB (vOp dNe (vVar 4) (vTup (vNil)))) (sSeq (sSet 6 (vCallB 0 m__law_take (vCons (vLenv 4) (vNil)))) (sFor (vItems (vLst (vCons (vCall m__law_plus (vCons (vLst (vCons (vIxv 4 (vVar 6)) (vCons (vTup (vCons (vC (.int 1)) (vCons (vC (.int 7)) (vNil)))) (vNil)))) (vNil))) (vCons (vCall m__law_by (vCons (vIxv 4 (vVar 6)) (vCons (vTup (vCons (vC (.int 1)) (vCons (vC (.int 2)) (vNil)))) (vNil)))) (vCons (vTup (vCons (vC (.int 0)) (vCons (vC (.int 1)) (vNil)))) (vCons (vTup (vCons (vC (.int 2)) (vCons (vC (.int 2)) (vNil)))) (vCons (vTup (vCons (vC (.int 1)) (vCons (vUn dNeg (vC (.int 1))) (vNil)))) (vCons (vC (.int 1)) (vCons (vTup (vCons (vUn dNeg (vC (.int 1))) (vCons (vC (.int 1)) (vNil)))) (vCons (vC (.bool true)) (vCons (vC .none) (vCons (vLst (vCons (vC (.int 1)) (vCons (vC (.int 1)) (vNil)))) (vCons (vTup (vCons (vC (.int 0)) (vCons (vC (.int 2)) (vNil)))) (vNil)))))))))))))) (pNm 7) (b1__law_near n))) (sNil)) (sSeq (sExt 5 (vLst (vCons (vOp dAdd (vOp dAdd (vSlv 2 (oNone) (oSome (vVar 3))) (vLst (vCons (vOp dAdd (vVar 4) (vTup (vCons (vTup (vCons (vC (.int 0)) (vCons (vC (.int 1)) (vNil)))) (vNil)))) (vNil)))) (vSlv 2 (oSome (vOp dAdd (vVar 3) (vC (.int 1)))) (oNone))) (vCons (vOp dAdd (vOp dAdd (vSlv 2 (oNone) (oSome (vVar 3))) (vLst (vCons (vC .none) (vNil)))) (vSlv 2 (oSome (vOp dAdd (vVar 3) (vC (.int 1)))) (oNone))) (vCons (vOp dAdd (vOp dAdd (vSlv 2 (oNone) (oSome (vVar 3))) (vLst (vCons (vSlv 4 (oSome (vC (.int 1))) (oNone)) (vNil)))) (vSlv 2 (oSome (vOp dAdd (vVar 3) (vC (.int 1)))) (oNone))) (vNil)))))) (sRet (vOp dAdd (vVar 5) (vLst (vCons (vLst (vCons (vVar 2) (vNil))) (vCons (vC (.str ⟨#[99, 111, 117, 114, 115, 101]⟩)) (vCons (vLst (vCons (vVar 4) (vCons (vVar 4) (vNil)))) (vCons (vDic0) (vNil))))))))))))
def m__law_near : List D → List D → Option (Out × List D) := runB 3 8 g__law_near (fun _ _ => 0)
/-! ### is_below -/
def g_is_below (n : Nat) : MS := sRet (vAnd (vCall m_is_integer (vCons (vVar 0) (vNil))) (vChain (dCmp fun i j => decide (i ≤ j)) (dCmp fun i j => decide (i < j)) (vC (.int 0)) (vVar 0) (vVar 1)))
def m_is_below : List D → Option Out := runM 2 2 g_is_below (fun _ => 0)
def e1_are_heaps (n : Nat) : M Sl := vCall m_is_below (vCons (vVar 4) (vCons (vC (.int 3)) (vNil)))
def t1_are_heaps (n : Nat) : M Bool := vB (vOp dEq (vVar 7) (vVar 4))
def b1_are_heaps (n : Nat) : MS := sApp 3 (vCall m_added (vCons (vLc (vZip (vCons (vVar 0) (vCons (vVar 1) (vNil)))) (pTup (pCons (pNm 6) (pCons (pNm 7) (pNil)))) (t1_are_heaps n) (vVar 6) [6, 7]) (vNil)))
def e2_are_heaps (n : Nat) : M Sl := vCall m_is_small (vCons (vVar 5) (vCons (vVar 2) (vNil)))
/-! ### are_heaps -/
def g_are_heaps (n : Nat) : MS := sSeq (sIf (bOr (bNot (vB (vCall m_is_tuple_of (vCons (vVar 1) (vCons (vLenv 0) (vNil)))))) (bNot (vB (vCb dAll (vCons (vLc (vItems (vVar 1)) (pNm 4) (bYes) (e1_are_heaps n) [4]) (vNil)))))) (sRet (vC (.bool false))) (sNil)) (sSeq (sPar [2, 3] (lCons (vCall m_added (vCons (vVar 0) (vNil))) (lCons (vLst (vNil)) (lNil)))) (sSeq (sFor (vRng1 (vCons (vC (.int 3)) (vNil))) (pNm 4) (b1_are_heaps n)) (sRet (vCb dAll (vCons (vLcv 3 id (pNm 5) (bYes) (e2_are_heaps n) [5]) (vNil))))))
def m_are_heaps : List D → Option Out := runM 2 8 g_are_heaps (fun _ => 0)
/-! ### is_within -/
def g_is_within (n : Nat) : MS := sRet (vAnd (vOp (dCmp fun i j => decide (i ≤ j)) (vCall m_compared (vCons (vIxv 1 (vC (.int 0))) (vCons (vVar 0) (vNil)))) (vC (.int 0))) (vOp (dCmp fun i j => decide (i ≤ j)) (vCall m_compared (vCons (vVar 0) (vCons (vIxv 1 (vC (.int 1))) (vNil)))) (vC (.int 0))))
def m_is_within : List D → Option Out := runM 2 2 g_is_within (fun _ => 0)
def e1_is_closing (n : Nat) : M Sl := vCall m_is_within (vCons (vVar 4) (vCons (vVar 5) (vNil)))
/-! ### is_closing -/
def g_is_closing (n : Nat) : MS := sSeq (sIf (bOr (bNot (vB (vCall m_is_tuple_of (vCons (vVar 1) (vCons (vC (.int 2)) (vNil)))))) (bNot (vB (vCall m_is_sizes (vCons (vLenv 0) (vCons (vIxv 1 (vC (.int 0))) (vNil))))))) (sRet (vC (.bool false))) (sNil)) (sSeq (sAsg (pTup (pCons (pNm 2) (pCons (pNm 3) (pNil)))) (vVar 1)) (sRet (vAnd (vCb dAll (vCons (vLc (vZip (vCons (vVar 2) (vCons (vVar 0) (vNil)))) (pTup (pCons (pNm 4) (pCons (pNm 5) (pNil)))) (bYes) (e1_is_closing n) [4, 5]) (vNil))) (vCall m_are_heaps (vCons (vVar 2) (vCons (vVar 3) (vNil)))))))
def m_is_closing : List D → Option Out := runM 2 6 g_is_closing (fun _ => 0)
/-! ### _law_odd -/
def g__law_odd (n : Nat) : MS := sSeq (sSet 1 (vLst (vCons (vC .none) (vCons (vC (.bool true)) (vCons (vC (.bool false)) (vCons (vC (.int 0)) (vCons (vC (.int 1)) (vCons (vUn dNeg (vC (.int 1))) (vCons (vC (.int 2)) (vCons (vOp dPow (vC (.int 10)) (vC (.int 39))) (vCons (vC (.str ⟨#[]⟩)) (vCons (vC (.str ⟨#[48]⟩)) (vCons (vC (.str ⟨#[97, 98]⟩)) (vCons (vTup (vNil)) (vCons (vLst (vNil)) (vCons (vDic0) (vCons (vTup (vCons (vC (.int 0)) (vNil))) (vCons (vTup (vCons (vC (.int 1)) (vCons (vC (.int 1)) (vNil)))) (vCons (vTup (vCons (vC (.int 0)) (vCons (vC (.int 1)) (vNil)))) (vCons (vLst (vCons (vC (.int 0)) (vCons (vC (.int 1)) (vNil)))) (vCons (vTup (vCons (vC (.int 1)) (vCons (vC (.int 0)) (vNil)))) (vCons (vTup (vCons (vC (.int 2)) (vCons (vC (.int 4)) (vNil)))) (vNil))))))))))))))))))))))) (sRet (vCallB 0 m__law_one (vCons (vOp dAdd (vVar 1) (vLst (vCons (vTup (vCons (vC (.bool true)) (vCons (vC (.int 1)) (vNil)))) (vCons (vTup (vCons (vC (.int 0)) (vCons (vC (.int 1)) (vCons (vC (.int 1)) (vNil))))) (vCons (vTup (vCons (vTup (vCons (vC (.int 0)) (vCons (vC (.int 1)) (vCons (vC (.int 1)) (vNil))))) (vNil))) (vCons (vTup (vCons (vC (.int 0)) (vCons (vC (.int 0)) (vNil)))) (vCons (vDic1 (.inr ⟨#[97]⟩) (.int 1)) (vCons (vTup (vCons (vTup (vNil)) (vCons (vTup (vCons (vC (.int 0)) (vCons (vC (.int 0)) (vNil)))) (vNil)))) (vCons (vTup (vCons (vC (.int 1)) (vCons (vTup (vNil)) (vNil)))) (vCons (vTup (vCons (vC (.int 0)) (vCons (vTup (vNil)) (vNil)))) (vCons (vTup (vCons (vUn dNeg (vC (.int 1))) (vCons (vTup (vNil)) (vNil)))) (vNil)))))))))))) (vNil))))
def m__law_odd : List D → List D → Option (Out × List D) := runB 1 2 g__law_odd (fun _ _ => 0)
/-! ### _law_bent -/
def g__law_bent (rec : List D → List D → Option (Out × List D)) (n : Nat) : MS := sSeq (sIf (bOr (bNot (vB (vUn (isiD "tuple") (vVar 1)))) (bOr (vB (vOp dEq (vVar 1) (vTup (vNil)))) (vB (vOp dEq (vVar 2) (vC (.int 0)))))) (sSeq (sIf (bAnd (vB (vCall m__law_integer (vCons (vVar 1) (vNil)))) (vB (vOp dEq (vCallB 0 m__law_take (vCons (vC (.int 2)) (vNil))) (vC (.int 0))))) (sRet (vCallB 0 m__law_one (vCons (vLst (vCons (vOp dAdd (vVar 1) (vC (.int 1))) (vCons (vUn dNeg (vVar 1)) (vCons (vOp dSub (vVar 1) (vC (.int 1))) (vCons (vCb dBool (vCons (vVar 1) (vNil))) (vCons (vCb dStr (vCons (vVar 1) (vNil))) (vNil))))))) (vNil)))) (sNil)) (sRet (vCallB 0 m__law_odd (vNil)))) (sNil)) (sSeq (sPar [3, 4] (lCons (vCallB 0 m__law_take (vCons (vC (.int 9)) (vNil))) (lCons (vCallB 0 m__law_take (vCons (vLenv 1) (vNil))) (lNil)))) (sSeq (sIf (vB (vOp dEq (vVar 3) (vC (.int 0)))) (sRet (vCb dList (vCons (vVar 1) (vNil)))) (sNil)) (sSeq (sIf (vB (vOp dEq (vVar 3) (vC (.int 1)))) (sRet (vOp dAdd (vSlv 1 (oNone) (oSome (vVar 4))) (vSlv 1 (oSome (vOp dAdd (vVar 4) (vC (.int 1)))) (oNone)))) (sNil)) (sSeq (sIf (vB (vOp dEq (vVar 3) (vC (.int 2)))) (sRet (vOp dAdd (vOp dAdd (vSlv 1 (oNone) (oSome (vVar 4))) (vTup (vCons (vCallB 0 m__law_odd (vNil)) (vNil)))) (vSlv 1 (oSome (vVar 4)) (oNone)))) (sNil)) (sSeq (sIf (vB (vOp dEq (vVar 3) (vC (.int 3)))) (sRet (vUn dRev (vVar 1))) (sNil)) (sRet (vOp dAdd (vOp dAdd (vSlv 1 (oNone) (oSome (vVar 4))) (vTup (vCons (vCallB 0 rec (vCons (vIxv 1 (vVar 4)) (vCons (vOp dSub (vVar 2) (vC (.int 1))) (vNil)))) (vNil)))) (vSlv 1 (oSome (vOp dAdd (vVar 4) (vC (.int 1)))) (oNone)))))))))
def r__law_bent : Nat → List D → List D → Option (Out × List D)
  | 0 => fun _ _ => none
  | dep + 1 => runB 3 5 (g__law_bent (r__law_bent dep)) (fun _ _ => 0)
def m__law_bent : List D → List D → Option (Out × List D) := r__law_bent 8
def t1__law_edge_spans (n : Nat) : M Bool := vB (vOp dNe (vVar 6) (vVar 3))
/-! ### _law_edge_spans -/
def g__law_edge_spans (n : Nat) : MS := sSeq (sSet 2 (vCb dList (vCons (vCallB 0 m__law_spans (vCons (vVar 1) (vCons (vCallB 0 m__law_one (vCons (vLst (vCons (vC (.int 3)) (vCons (vC (.int 9)) (vCons (vC (.int 99)) (vNil))))) (vNil))) (vNil)))) (vNil)))) (sSeq (sIf (bAnd (vB (vOp (dCmp fun i j => decide (j < i)) (vVar 1) (vC (.int 0)))) (vB (vOp dEq (vCallB 0 m__law_take (vCons (vC (.int 2)) (vNil))) (vC (.int 0))))) (sSeq (sSet 3 (vCallB 0 m__law_take (vCons (vVar 1) (vNil)))) (sSeq (sSet 4 (vCall m__law_plus (vCons (vLcv 2 enumD (pTup (pCons (pNm 6) (pCons (pNm 7) (pNil)))) (t1__law_edge_spans n) (vIxv 7 (vC (.int 1))) [6, 7]) (vNil)))) (sSeq (sSet 5 (vCall m__law_plus (vCons (vLst (vCons (vVar 4) (vCons (vCallB 0 m__law_one (vCons (vLst (vCons (vTup (vCons (vC (.int 0)) (vCons (vC (.int 1)) (vNil)))) (vCons (vTup (vCons (vC (.int 1)) (vCons (vC (.int 6)) (vNil)))) (vCons (vTup (vCons (vC (.int 0)) (vCons (vC (.int 1)) (vNil)))) (vCons (vTup (vCons (vC (.int 1)) (vCons (vC (.int 1)) (vNil)))) (vNil)))))) (vNil))) (vNil)))) (vNil)))) (sStore 2 (vVar 3) (vTup (vCons (vVar 5) (vCons (vCall m__law_plus (vCons (vLst (vCons (vVar 5) (vCons (vCallB 0 m__law_one (vCons (vLst (vCons (vTup (vCons (vC (.int 0)) (vCons (vC (.int 1)) (vNil)))) (vCons (vTup (vCons (vC (.int 2)) (vCons (vC (.int 1)) (vNil)))) (vNil)))) (vNil))) (vNil)))) (vNil))) (vNil)))))))) (sNil)) (sRet (vCb dTuple (vCons (vVar 2) (vNil)))))
def m__law_edge_spans : List D → List D → Option (Out × List D) := runB 2 8 g__law_edge_spans (fun _ _ => 0)
def e1__law_can_heap (n : Nat) : M Sl := vTup (vCons (vVar 1) (vCons (vVar 1) (vNil)))
/-! ### _law_can_heap -/
def g__law_can_heap (n : Nat) : MS := sRet (vCall m__law_closes (vCons (vCb dTuple (vCons (vLc (vItems (vVar 0)) (pNm 1) (bYes) (e1__law_can_heap n) [1]) (vNil))) (vNil)))
def m__law_can_heap : List D → Option Out := runM 1 2 g__law_can_heap (fun _ => 0)
end Sh

namespace Fr
open PySem Mv Sh

/-! ### the meaning of texts, unrolled -/
def sThen (r : R Fl) (k : MS) : R Fl := match r with
  | .ok .nx e => k e
  | r => r
@[simp] theorem then_nx (e : En) (k : MS) : sThen (.ok .nx e) k = k e := rfl
@[simp] theorem then_rt (r : Sl) (e : En) (k : MS) : sThen (.ok (.rt r) e) k = .ok (.rt r) e := rfl
@[simp] theorem then_bk (e : En) (k : MS) : sThen (.ok .bk e) k = .ok .bk e := rfl
@[simp] theorem then_ct (e : En) (k : MS) : sThen (.ok .ct e) k = .ok .ct e := rfl
@[simp] theorem then_exc (c fs) (e : En) (k : MS) : sThen (.exc c fs e) k = .exc c fs e := rfl
theorem abs_nat (a : Int) : (if a < 0 then -a else a) = (a.natAbs : Int) := by split <;> omega
section
variable (f g : M Sl) (h k : MS) (c c2 : M Bool) (gs : M (List D)) (ls : M (List Sl)) (s : Sl) (es : List Sl) (i : Nat) (o : D → D → Option Sl) (u : D → Option Sl) (cb : List D → Option Sl) (m : List D → Option Out)
@[simp] theorem e_seq : sSeq h k (s :: es) = sThen (h (s :: es)) k := rfl
@[simp] theorem e_set : sSet i f (s :: es) = (f (s :: es)).bind fun r e => .ok .nx (e.set i r) := rfl
@[simp] theorem e_ret : sRet f (s :: es) = (f (s :: es)).bind fun r e => .ok (.rt r) e := rfl
@[simp] theorem e_nil : sNil (s :: es) = .ok .nx (s :: es) := rfl
@[simp] theorem e_sif : sIf c h k (s :: es) = (c (s :: es)).bind fun b e => if b = true then h e else k e := rfl
@[simp] theorem e_var : vVar i (s :: es) = match (s :: es)[i]? with
  | some (.val d) => .ok (.val d) (s :: es)
  | some (.own false xs) => .ok (.val (.list xs)) ((s :: es).set i (.val (.list xs)))
  | _ => .bad := rfl
@[simp] theorem e_c (d : D) : vC d (s :: es) = .ok (.val d) (s :: es) := rfl
@[simp] theorem e_vd : vD f (s :: es) = (f (s :: es)).bind frzS := rfl
@[simp] theorem e_op : vOp o f g (s :: es) = (vD f (s :: es)).bind fun x e => (vD g e).bind fun y e2 => opt (o x y) e2 := rfl
@[simp] theorem e_un : vUn u f (s :: es) = (vD f (s :: es)).bind fun x e => opt (u x) e := rfl
@[simp] theorem e_cb : vCb cb gs (s :: es) = (gs (s :: es)).bind fun xs e => opt (cb xs) e := rfl
@[simp] theorem e_vb : vB f (s :: es) = (vD f (s :: es)).bind bOf := rfl
@[simp] theorem e_cons : vCons f gs (s :: es) = (vD f (s :: es)).bind fun d e => (gs e).bind fun ds e2 => .ok (d :: ds) e2 := rfl
@[simp] theorem e_vnil : vNil (s :: es) = .ok [] (s :: es) := rfl
@[simp] theorem e_tup : vTup gs (s :: es) = (gs (s :: es)).bind fun ds e => opt (if ds.length ≤ LIM then some (.val (.tuple ds)) else none) e := rfl
@[simp] theorem e_lst : vLst gs (s :: es) = (gs (s :: es)).bind fun ds e => opt (if ds.length ≤ LIM then some (.own false ds) else none) e := rfl
@[simp] theorem e_call : vCall m gs (s :: es) = (gs (s :: es)).bind fun ds e => callR (m ds) e := rfl
@[simp] theorem e_lcons : lCons f ls (s :: es) = (f (s :: es)).bind fun r e => (ls e).bind fun rs e2 => .ok (r :: rs) e2 := rfl
@[simp] theorem e_lnil : lNil (s :: es) = .ok [] (s :: es) := rfl
@[simp] theorem e_par (is : List Nat) : sPar is ls (s :: es) = (ls (s :: es)).bind fun rs e => match storeE is rs e with
  | some e2 => .ok .nx e2
  | none => .bad := rfl
@[simp] theorem e_ixv : vIxv i f (s :: es) = match (s :: es)[i]? with
  | some (.val d) => (vD f (s :: es)).bind fun k e => opt (dIx d k) e
  | some (.own _ _) => (vD f (s :: es)).bind fun k e => ownE i e fun _ xs => opt (dIx (.list xs) k) e
  | _ => .bad := rfl
@[simp] theorem e_retv : sRetV i (s :: es) = match (s :: es)[i]? with
  | some (.val d) => .ok (.rt (.val d)) (s :: es)
  | some (.own false xs) => .ok (.rt (.own false xs)) ((s :: es).set i .no)
  | _ => .bad := rfl
@[simp] theorem e_if : vIf c f g (s :: es) = (c (s :: es)).bind fun b e => if b = true then f e else g e := rfl
@[simp] theorem e_and : vAnd f g (s :: es) = (vB f (s :: es)).bind fun b e => if b = true then g e else .ok (.val (.bool false)) e := rfl
@[simp] theorem e_or : vOr f g (s :: es) = (vB f (s :: es)).bind fun b e => if b = true then .ok (.val (.bool true)) e else g e := rfl
@[simp] theorem e_not : vNot f (s :: es) = (vB f (s :: es)).bind fun b e => .ok (.val (.bool (!b))) e := rfl
@[simp] theorem e_band : bAnd c c2 (s :: es) = (c (s :: es)).bind fun b e => if b = true then c2 e else .ok false e := rfl
@[simp] theorem e_bor : bOr c c2 (s :: es) = (c (s :: es)).bind fun b e => if b = true then .ok true e else c2 e := rfl
@[simp] theorem e_bnot : bNot c (s :: es) = (c (s :: es)).bind fun b e => .ok (!b) e := rfl
@[simp] theorem e_store1 (is : List Nat) (r : Sl) (rs : List Sl) : storeE (i :: is) (r :: rs) (s :: es) = storeE is rs ((s :: es).set i r) := rfl
@[simp] theorem e_store0 : storeE [] [] (s :: es) = some (s :: es) := rfl
@[simp] theorem e_outrt (r : Sl) : outOf (.ok (.rt r) (s :: es)) = some (.ret r) := rfl
@[simp] theorem e_outnx : outOf (.ok .nx (s :: es)) = some (.ret (.val .none)) := rfl
@[simp] theorem e_abs (z : Int) : dAbs [.int z] = some (.val (.int z.natAbs)) := by rw [← abs_nat]; rfl
@[simp] theorem e_int (z : Int) : dInt [.int z] = some (.val (.int z)) := rfl
@[simp] theorem e_intb (b : Bool) : dInt [.bool b] = some (.val (.int (if b then 1 else 0))) := rfl
end
@[simp] theorem atI0 {α : Type} (a : α) (l : List α) : L2.atI (a :: l) 0 = some a := by
  unfold L2.atI L2.ixN
  rw [if_pos (Int.le_refl _), if_pos (by simp)]
  rfl
@[simp] theorem atI1 {α : Type} (a b : α) (l : List α) : L2.atI (a :: b :: l) 1 = some b := by
  unfold L2.atI L2.ixN
  rw [if_pos (by decide), if_pos (by simp; omega)]
  rfl

/-! ### gcd -/
theorem fmod_nat (a b : Nat) : Int.fmod (a : Int) (b : Int) = ((a % b : Nat) : Int) := by
  rw [Int.fmod_eq_emod_of_nonneg _ (Int.natCast_nonneg b)]
  exact (Int.natCast_emod a b).symm
theorem common_loop : ∀ (n a b : Nat), b < n →
    whileL (vB (vOp (dCmp fun i j => decide (j < i)) (vVar 1) (vC (.int 0)))) (sPar [0, 1] (lCons (vVar 1) (lCons (vOp dMod (vVar 0) (vVar 1)) (lNil)))) n [.val (.int (a : Int)), .val (.int (b : Int))] = .ok .nx [.val (.int (Nat.gcd a b : Int)), .val (.int 0)]
  | 0, _, _, h => by omega
  | n + 1, a, 0, _ => by simp [whileL]
  | n + 1, a, b + 1, h => by
    have hm : a % (b + 1) < n := by
      have h2 : a % (b + 1) < b + 1 := Nat.mod_lt a (Nat.succ_pos b)
      omega
    have ih := common_loop n (b + 1) (a % (b + 1)) hm
    unfold whileL
    have e : Int.fmod (a : Int) ((b + 1 : Nat) : Int) = ((a % (b + 1) : Nat) : Int) := fmod_nat a (b + 1)
    have e0 : ((b + 1 : Nat) : Int) ≠ 0 := by omega
    have e1 : (0 : Int) < ((b + 1 : Nat) : Int) := by omega
    simp only [Mv.vB, Mv.vD, Mv.vOp, Mv.vVar, Mv.vC, R.bind_ok, List.getElem?_cons_succ, List.getElem?_cons_zero, frzS_val, dCmp_int, opt_some, bOf_bool, e1, decide_true, if_true, Mv.sPar, Mv.lCons, Mv.lNil, Mv.storeE, List.set_cons_zero, List.set_cons_succ, dMod, e0, ne_eq, not_false_eq_true, e]
    rw [ih, Nat.gcd_comm a (b + 1), Nat.gcd_rec (b + 1) a, Nat.gcd_comm]
theorem m_common_eq (a b : Nat) : m_common [.int (a : Int), .int (b : Int)] = some (.ret (.val (.int (Nat.gcd a b : Int)))) := by
  unfold m_common runM g_common
  have h := common_loop (((b : Int)).natAbs + 2) a b (by simp)
  simp only [List.length_cons, List.length_nil, if_true]
  show outOf (sSeq _ (sRetV 0) [.val (.int (a : Int)), .val (.int (b : Int))]) = _
  rw [e_seq, h]
  simp

/-! ### fractions -/
def fr (q : Rat) : D := .tuple [.int q.num, .int q.den]
@[simp] theorem fr0 (q : Rat) : dIx (fr q) (.int 0) = some (.val (.int q.num)) := rfl
@[simp] theorem fr1 (q : Rat) : dIx (fr q) (.int 1) = some (.val (.int q.den)) := rfl
theorem fdiv_of {a g k : Int} (hg : g ≠ 0) (h : a = g * k) : a.fdiv g = k := by rw [h]; exact Int.mul_fdiv_cancel_left k hg
theorem sgn_pos {b : Int} (h : 0 < b) : b.sign = 1 := Int.sign_eq_one_of_pos h
theorem sgn_neg {b : Int} (h : b < 0) : b.sign = -1 := Int.sign_eq_neg_one_of_neg h
theorem fr_divInt {a b : Int} (hb : b ≠ 0) {g : Int} (hg : g = b.sign * (Nat.gcd a.natAbs b.natAbs : Int)) : fr (Rat.divInt a b) = .tuple [.int (a.fdiv g), .int (b.fdiv g)] := by
  have hgp : 0 < Nat.gcd a.natAbs b.natAbs := Nat.gcd_pos_of_pos_right _ (by omega)
  obtain ⟨k, hk⟩ : ((Nat.gcd a.natAbs b.natAbs : Nat) : Int) ∣ a := Int.ofNat_dvd_left.mpr (Nat.gcd_dvd_left _ _)
  obtain ⟨l, hl⟩ : ((Nat.gcd a.natAbs b.natAbs : Nat) : Int) ∣ b := Int.ofNat_dvd_left.mpr (Nat.gcd_dvd_right _ _)
  have gc : b.gcd a = Nat.gcd a.natAbs b.natAbs := by rw [Int.gcd_comm]; rfl
  unfold fr
  rw [Rat.num_divInt, Rat.den_divInt, if_neg hb, gc]
  generalize Nat.gcd a.natAbs b.natAbs = G at *
  have hG : (G : Int) ≠ 0 := by omega
  have e1 : b.sign * a / (G : Int) = b.sign * k := by
    rw [hk, show b.sign * ((G : Int) * k) = (G : Int) * (b.sign * k) by rw [Int.mul_left_comm]]
    exact Int.mul_ediv_cancel_left _ hG
  have e2 : ((b.natAbs / G : Nat) : Int) = b.sign * l := by
    rw [Int.natCast_ediv]
    have : (b.natAbs : Int) = (G : Int) * (b.sign * l) := by
      rw [Int.mul_left_comm, ← hl, Int.sign_mul_self]
    rw [this]
    exact Int.mul_ediv_cancel_left _ hG
  have sq : b.sign * b.sign = 1 := by
    rcases Int.lt_or_gt_of_ne hb with h | h
    · rw [sgn_neg h]; rfl
    · rw [sgn_pos h]; rfl
  have hg0 : g ≠ 0 := by
    rw [hg]
    rcases Int.lt_or_gt_of_ne hb with h | h
    · rw [sgn_neg h]; omega
    · rw [sgn_pos h]; omega
  have f1 : a.fdiv g = b.sign * k := fdiv_of hg0 (by rw [hg, show b.sign * (G : Int) * (b.sign * k) = (b.sign * b.sign) * ((G : Int) * k) by simp only [Int.mul_assoc, Int.mul_left_comm], sq, Int.one_mul]; exact hk)
  have f2 : b.fdiv g = b.sign * l := fdiv_of hg0 (by rw [hg, show b.sign * (G : Int) * (b.sign * l) = (b.sign * b.sign) * ((G : Int) * l) by simp only [Int.mul_assoc, Int.mul_left_comm], sq, Int.one_mul]; exact hl)
  rw [e1, e2, f1, f2]
theorem log2_lt {n k : Nat} (hk : 0 < k) (h : n < 2 ^ k) : n.log2 < k := by
  by_cases h0 : n = 0
  · subst h0; simpa using hk
  · exact
                                                                                                                  (Nat.log2_lt h0).mpr h
theorem gcd_small {a b : Int} (hb : b ≠ 0) (h : b.natAbs < 2 ^ 9000) : (Nat.gcd a.natAbs b.natAbs).log2 < 9000 :=
  log2_lt (by decide) (Nat.lt_of_le_of_lt (Nat.le_of_dvd (by omega) (Nat.gcd_dvd_right _ _)) h)
theorem lim_is : LIM = 1000000 := rfl
theorem m_reduced_eq {a b : Int} (hb : b ≠ 0) (hs : b.natAbs < 2 ^ 9000) : m_reduced [.int a, .int b] = some (.ret (.val (fr (Rat.divInt a b)))) := by
  have hgp : 0 < Nat.gcd a.natAbs b.natAbs := Nat.gcd_pos_of_pos_right _ (by omega)
  have hl := gcd_small (a := a) hb hs
  rcases Int.lt_or_gt_of_ne hb with h | h
  · rw [fr_divInt hb (g := 0 - (Nat.gcd a.natAbs b.natAbs : Int)) (by rw [sgn_neg h]; omega)]
    simp [m_reduced, g_reduced, runM, startE, abs_nat, m_common_eq, h, show (0 : Int) - (Nat.gcd a.natAbs b.natAbs : Int) ≠ 0 by omega, show (-(Nat.gcd a.natAbs b.natAbs : Int)) ≠ 0 by omega, hl, hb, lim_is]
  · rw [fr_divInt hb (g := (Nat.gcd a.natAbs b.natAbs : Int)) (by rw [sgn_pos h]; omega)]
    simp [m_reduced, g_reduced, runM, startE, abs_nat, m_common_eq, Int.not_lt.mpr (Int.le_of_lt h), show ((Nat.gcd a.natAbs b.natAbs : Nat) : Int) ≠ 0 by omega, hl, hb, lim_is]

/-! ### small fractions; what the texts about them compute -/
def Bq (q : Rat) : Prop := q.num.natAbs < 2 ^ 4000 ∧ q.den < 2 ^ 4000
theorem mul_lt {a b n m : Nat} (h1 : a < 2 ^ n) (h2 : b < 2 ^ m) : a * b < 2 ^ (n + m) := by
  rw [Nat.pow_add]
  exact Nat.mul_lt_mul'' h1 h2
theorem mulOk_of {i j : Int} (h1 : i.natAbs < 2 ^ 40000) (h2 : j.natAbs < 2 ^ 40000) : mulOk i j := by
  have e1 := log2_lt (k := 40000) (by decide) h1
  have e2 := log2_lt (k := 40000) (by decide) h2
  exact .inl (by omega)
theorem up {n k m : Nat} (h : n < 2 ^ k) (hk : k ≤ m) : n < 2 ^ m := Nat.lt_of_lt_of_le h (Nat.pow_le_pow_right (by decide) hk)
theorem mul_nn {a b : Rat} (ha : Bq a) (hb : Bq b) : mulOk a.num b.num := mulOk_of (up ha.1 (by decide)) (up hb.1 (by decide))
theorem mul_nd {a b : Rat} (ha : Bq a) (hb : Bq b) : mulOk a.num b.den := mulOk_of (up ha.1 (by decide)) (up (by simpa using hb.2) (by decide))
theorem mul_dd {a b : Rat} (ha : Bq a) (hb : Bq b) : mulOk (a.den : Int) b.den := mulOk_of (up (by simpa using ha.2) (by decide)) (up (by simpa using hb.2) (by decide))
theorem mul_dn {a b : Rat} (ha : Bq a) (hb : Bq b) : mulOk (a.den : Int) b.num := mulOk_of (up (by simpa using ha.2) (by decide)) (up hb.1 (by decide))
theorem dd_ne (a b : Rat) : (a.den : Int) * b.den ≠ 0 := by
  have h1 := a.den_pos
  have h2 := b.den_pos
  exact Int.mul_ne_zero (by omega) (by omega)
theorem dd_small {a b : Rat} (ha : Bq a) (hb : Bq b) : ((a.den : Int) * b.den).natAbs < 2 ^ 9000 := by
  rw [Int.natAbs_mul]
  exact up (mul_lt (by simpa using ha.2) (by simpa using hb.2)) (by decide)
theorem den0 (a : Rat) : (a.den : Int) ≠ 0 := by have := a.den_pos; omega
theorem less_val (a b : Rat) : Rat.divInt (a.num * b.den - b.num * a.den) (a.den * b.den) = a - b := by
  conv => rhs; rw [← Rat.num_divInt_den a, ← Rat.num_divInt_den b]
  rw [Rat.divInt_sub_divInt _ _ (den0 a) (den0 b)]
theorem add_val (a b : Rat) : Rat.divInt (a.num * b.den + b.num * a.den) (a.den * b.den) = a + b := by
  conv => rhs; rw [← Rat.num_divInt_den a, ← Rat.num_divInt_den b]
  rw [Rat.divInt_add_divInt _ _ (den0 a) (den0 b)]
theorem mul_val (a b : Rat) : Rat.divInt (a.num * b.num) (a.den * b.den) = a * b := by
  conv => rhs; rw [← Rat.num_divInt_den a, ← Rat.num_divInt_den b]
  rw [Rat.divInt_mul_divInt]
theorem over_val (a b : Rat) : Rat.divInt (a.num * b.den) (a.den * b.num) = a / b := by
  conv => rhs; rw [← Rat.num_divInt_den a, ← Rat.num_divInt_den b]
  rw [Rat.div_def, Rat.inv_divInt, Rat.divInt_mul_divInt]
theorem m_less_eq {a b : Rat} (ha : Bq a) (hb : Bq b) : m_less [fr a, fr b] = some (.ret (.val (fr (a - b)))) := by
  simp [m_less, g_less, runM, startE, mul_nd ha hb, mul_nd hb ha, mul_dd ha hb, m_reduced_eq (dd_ne a b) (dd_small ha hb), less_val]
theorem m_times_eq {a b : Rat} (ha : Bq a) (hb : Bq b) : m_times [fr a, fr b] = some (.ret (.val (fr (a * b)))) := by
  simp [m_times, g_times, runM, startE, mul_nn ha hb, mul_dd ha hb, m_reduced_eq (dd_ne a b) (dd_small ha hb), mul_val]
def cmpI (a b : Rat) : Int := (if b < a then 1 else 0) - (if a < b then 1 else 0)
theorem m_compared_eq {a b : Rat} (ha : Bq a) (hb : Bq b) : m_compared [fr a, fr b] = some (.ret (.val (.int (cmpI a b)))) := by
  simp [m_compared, g_compared, runM, startE, mul_nd ha hb, mul_nd hb ha, cmpI, Rat.lt_iff]
theorem cmpI_le (a b : Rat) : cmpI a b ≤ 0 ↔ a ≤ b := by unfold cmpI; split <;> split <;> grind
theorem cmpI_lt (a b : Rat) : cmpI a b < 0 ↔ a < b := by unfold cmpI; split <;> split <;> grind
theorem cmpI_gt (a b : Rat) : 0 < cmpI a b ↔ b < a := by unfold cmpI; split <;> split <;> grind
theorem cmpI_ge (a b : Rat) : 0 ≤ cmpI a b ↔ b ≤ a := by unfold cmpI; split <;> split <;> grind
end Fr

namespace Fr
open PySem Mv Sh

theorem shaped_int (a : Int) : SeqAt.shaped (.int a) = true := by simp [SeqAt.shaped, PyData.canLay0, PyData.depth]
theorem shaped_bool (a : Bool) : SeqAt.shaped (.bool a) = true := by simp [SeqAt.shaped, PyData.canLay0, PyData.depth]
@[simp] theorem dEq_int (a b : Int) : dEq (.int a) (.int b) = some (.val (.bool (decide (a = b)))) := by
  rw [dEq]
  · rw [if_pos ⟨shaped_int a, shaped_int b⟩]
    simp only [PyData.eqv]
    rw [show (a == b) = decide (a = b) from rfl]
  · intro _ _ h; cases h
@[simp] theorem dNe_int (a b : Int) : dNe (.int a) (.int b) = some (.val (.bool (!decide (a = b)))) := by
  rw [dNe]
  · rw [if_pos ⟨shaped_int a, shaped_int b⟩]
    simp only [PyData.eqv]
    rw [show (a == b) = decide (a = b) from rfl]
  · intro _ _ h; cases h
@[simp] theorem dEq_str (a b : Str) : dEq (.str a) (.str b) = some (.val (.bool (decide (a = b)))) := rfl
@[simp] theorem dNe_str (a b : Str) : dNe (.str a) (.str b) = some (.val (.bool (!decide (a = b)))) := rfl
theorem shared_loop : ∀ (n a b : Nat), b < n →
    whileL (vB (vOp dNe (vVar 1) (vC (.int 0)))) (sPar [0, 1] (lCons (vVar 1) (lCons (vOp dMod (vCb dInt (vCons (vVar 0) (vNil))) (vVar 1)) (lNil)))) n [.val (.int (a : Int)), .val (.int (b : Int))] = .ok .nx [.val (.int (Nat.gcd a b : Int)), .val (.int 0)]
  | 0, _, _, h => by omega
  | n + 1, a, 0, _ => by simp [whileL]
  | n + 1, a, b + 1, h => by
    have hm : a % (b + 1) < n := by
      have h2 : a % (b + 1) < b + 1 := Nat.mod_lt a (Nat.succ_pos b)
      omega
    have ih := shared_loop n (b + 1) (a % (b + 1)) hm
    unfold whileL
    have e : Int.fmod (a : Int) ((b + 1 : Nat) : Int) = ((a % (b + 1) : Nat) : Int) := fmod_nat a (b + 1)
    have e0 : ((b + 1 : Nat) : Int) ≠ 0 := by omega
    simp only [e_vb, e_vd, e_op, e_var, e_c, R.bind_ok, List.getElem?_cons_succ, List.getElem?_cons_zero, frzS_val, dNe_int, opt_some, bOf_bool, e0, decide_false, Bool.not_false, if_true, e_par, e_lcons, e_lnil, e_cb, e_cons, e_vnil, e_int, e_store1, e_store0, List.set_cons_zero, List.set_cons_succ, dMod, ne_eq, not_false_eq_true, e]
    rw [ih, Nat.gcd_comm a (b + 1), Nat.gcd_rec (b + 1) a, Nat.gcd_comm]
theorem m_shared_eq (a b : Int) : m__law_shared [.int a, .int b] = some (.ret (.val (.int (Nat.gcd a.natAbs b.natAbs : Int)))) := by
  have h := shared_loop (b.natAbs + 2) a.natAbs b.natAbs (by omega)
  simp only [m__law_shared, runM, g__law_shared, List.length_cons, List.length_nil, if_true, e_seq]
  simp [startE, h]
theorem m_ratio_eq {a b : Int} (hb : b ≠ 0) (hs : b.natAbs < 2 ^ 9000) : m__law_ratio [.int a, .int b] = some (.ret (.val (fr (Rat.divInt a b)))) := by
  have hgp : 0 < Nat.gcd a.natAbs b.natAbs := Nat.gcd_pos_of_pos_right _ (by omega)
  have hl := gcd_small (a := a) hb hs
  have ok1 : mulOk ((Nat.gcd a.natAbs b.natAbs : Nat) : Int) 1 := .inr (.inr ⟨by decide, by decide⟩)
  have ok2 : mulOk ((Nat.gcd a.natAbs b.natAbs : Nat) : Int) (-1) := .inr (.inr ⟨by decide, by decide⟩)
  rcases Int.lt_or_gt_of_ne hb with h | h
  · rw [fr_divInt hb (g := -(Nat.gcd a.natAbs b.natAbs : Int)) (by rw [sgn_neg h]; omega)]
    simp [m__law_ratio, g__law_ratio, runM, startE, m_shared_eq, h, ok2, Int.not_lt.mpr (Int.le_of_lt h), hl, hb, lim_is]
  · rw [fr_divInt hb (g := (Nat.gcd a.natAbs b.natAbs : Int)) (by rw [sgn_pos h]; omega)]
    simp [m__law_ratio, g__law_ratio, runM, startE, m_shared_eq, h, ok1, hl, hb, lim_is]
theorem m_minus_eq {a b : Rat} (ha : Bq a) (hb : Bq b) : m__law_minus [fr a, fr b] = some (.ret (.val (fr (a - b)))) := by
  simp [m__law_minus, g__law_minus, runM, startE, mul_nd ha hb, mul_nd hb ha, mul_dd ha hb, m_ratio_eq (dd_ne a b) (dd_small ha hb), less_val]
theorem m_by_eq {a b : Rat} (ha : Bq a) (hb : Bq b) : m__law_by [fr a, fr b] = some (.ret (.val (fr (a * b)))) := by
  simp [m__law_by, g__law_by, runM, startE, mul_nn ha hb, mul_dd ha hb, m_ratio_eq (dd_ne a b) (dd_small ha hb), mul_val]
theorem m_over_eq {a b : Rat} (ha : Bq a) (hb : Bq b) (h0 : b ≠ 0) : m__law_over [fr a, fr b] = some (.ret (.val (fr (a / b)))) := by
  have hn : b.num ≠ 0 := fun e => h0 (Rat.num_eq_zero.mp e)
  have hd : (a.den : Int) * b.num ≠ 0 := Int.mul_ne_zero (den0 a) hn
  have hs : ((a.den : Int) * b.num).natAbs < 2 ^ 9000 := by
    rw [Int.natAbs_mul]
    exact up (m := 9000) (mul_lt (show (a.den : Int).natAbs < 2 ^ 4000 by rw [Int.natAbs_natCast]; exact ha.2) hb.1) (by decide)
  simp [m__law_over, g__law_over, runM, startE, mul_nd ha hb, mul_dn ha hb, m_ratio_eq hd hs, over_val]
theorem m_below_eq {a b : Rat} (ha : Bq a) (hb : Bq b) : m__law_below [fr a, fr b] = some (.ret (.val (.bool (decide (a < b))))) := by
  simp [m__law_below, g__law_below, runM, startE, mul_nd ha hb, mul_nd hb ha, Rat.lt_iff]

/-! ### sums -/
/-- q is a whole number of N-ths, of at most M of them -/
def Fx (N M : Nat) (q : Rat) : Prop := ∃ z : Int, z.natAbs ≤ M ∧ q = Rat.divInt z N
theorem Fx.num {N M : Nat} {q : Rat} (hN : 0 < N) (h : Fx N M q) : q.num.natAbs ≤ M ∧ q.den ≤ N := by
  obtain ⟨z, hz, rfl⟩ := h
  rw [Rat.num_divInt, Rat.den_divInt, if_neg (by omega), sgn_pos (by omega), Int.one_mul]
  refine ⟨?_, ?_⟩
  · rw [Int.natAbs_ediv_of_dvd (Int.gcd_dvd_right ..)]
    exact Nat.le_trans (Nat.div_le_self _ _) hz
  · exact Nat.le_trans (Nat.div_le_self _ _) (Nat.le_of_eq (Int.natAbs_natCast N))
theorem Fx.bq {N M : Nat} {q : Rat} (h : Fx N M q) (hN : 0 < N ∧ N < 2 ^ 4000) (hM : M < 2 ^ 4000) : Bq q :=
  let ⟨h1, h2⟩ := h.num hN.1
  ⟨Nat.lt_of_le_of_lt h1 hM, Nat.lt_of_le_of_lt h2 hN.2⟩
theorem Fx.mono {N M M' : Nat} {q : Rat} (h : Fx N M q) (le : M ≤ M') : Fx N M' q := let ⟨z, h1, h2⟩ := h; ⟨z, Nat.le_trans h1 le, h2⟩
theorem divInt_eq (z : Int) (N : Nat) : Rat.divInt z N = (z : Rat) / (N : Rat) := by rw [Rat.divInt_eq_div]; rfl
theorem Fx.add {N M M' : Nat} {q r : Rat} (h : Fx N M q) (h' : Fx N M' r) : Fx N (M + M') (q + r) := by
  obtain ⟨z, h1, rfl⟩ := h
  obtain ⟨y, h2, rfl⟩ := h'
  refine ⟨z + y, by omega, ?_⟩
  rw [divInt_eq, divInt_eq, divInt_eq, Rat.div_def, Rat.div_def, Rat.div_def, Rat.intCast_add]
  grind
theorem Fx.sub {N M M' : Nat} {q r : Rat} (h : Fx N M q) (h' : Fx N M' r) : Fx N (M + M') (q - r) := by
  obtain ⟨z, h1, rfl⟩ := h
  obtain ⟨y, h2, rfl⟩ := h'
  refine ⟨z - y, by omega, ?_⟩
  rw [divInt_eq, divInt_eq, divInt_eq, Rat.div_def, Rat.div_def, Rat.div_def, Rat.intCast_sub]
  grind
theorem Fx.mul {N N' M M' : Nat} {q r : Rat} (h : Fx N M q) (h' : Fx N' M' r) : Fx (N * N') (M * M') (q * r) := by
  obtain ⟨z, h1, rfl⟩ := h
  obtain ⟨y, h2, rfl⟩ := h'
  refine ⟨z * y, by rw [Int.natAbs_mul]; exact Nat.mul_le_mul h1 h2, ?_⟩
  rw [Rat.divInt_mul_divInt]
  simp
theorem Fx.zero {N M : Nat} : Fx N M 0 := ⟨0, by omega, by rw [divInt_eq]; grind⟩
/-- in finer parts -/
theorem Fx.fine {N M : Nat} (k : Nat) (hk : 0 < k) {q : Rat} (h : Fx N M q) : Fx (N * k) (M * k) q := by
  have hk' : (0 : Rat) < (k : Rat) := Rat.natCast_pos.mpr hk
  have : Fx k k 1 := ⟨k, by simp, by rw [divInt_eq, Rat.intCast_natCast]; grind⟩
  have h2 := h.mul this
  rwa [Rat.mul_one] at h2
def sumQ : List Rat → Rat
  | [] => 0
  | q :: qs => q + sumQ qs
theorem Fx.sum {N M : Nat} : ∀ {qs : List Rat}, (∀ q ∈ qs, Fx N M q) → Fx N (qs.length * M) (sumQ qs)
  | [], _ => Fx.zero
  | q :: qs, h => by
    have h1 := h q List.mem_cons_self
    have h2 := Fx.sum (qs := qs) fun r hr => h r (List.mem_cons_of_mem _ hr)
    rw [List.length_cons, Nat.succ_mul, Nat.add_comm]
    exact h1.add h2

/-- sums by steps: what stands behind each -/
theorem forL_nil (pat : D → En → Option En) (b : MS) (e : En) : forL pat b [] e = .ok .nx e := rfl
theorem forL_nx {pat : D → En → Option En} {b : MS} {d : D} {ds : List D} {e e1 e2 : En} (h1 : pat d e = some e1) (h2 : b e1 = .ok .nx e2) : forL pat b (d :: ds) e = forL pat b ds e2 := by
  rw [forL, h1]
  show (match b e1 with | _ => _) = _
  rw [h2]
@[simp] theorem p_nm (i : Nat) (d : D) (en : En) : pNm i d en = some (en.set i (.val d)) := rfl
@[simp] theorem p_nil (en : En) : pNil [] en = some en := rfl
@[simp] theorem p_cons (g : D → En → Option En) (h : List D → En → Option En) (d : D) (ds : List D) (en : En) : pCons g h (d :: ds) en = (g d en).bind (h ds) := rfl
@[simp] theorem p_tup (h : List D → En → Option En) (ds : List D) (en : En) : pTup h (.tuple ds) en = h ds en := rfl
theorem added_loop {N M : Nat} (hN : 0 < N ∧ N < 2 ^ 4000) (b : MS)
    (hb : b = sSet 1 (vCall m_reduced (vCons (vOp dAdd (vOp dMul (vIxv 1 (vC (.int 0))) (vVar 3)) (vOp dMul (vVar 2) (vIxv 1 (vC (.int 1))))) (vCons (vOp dMul (vIxv 1 (vC (.int 1))) (vVar 3)) (vNil))))) :
    ∀ (qs : List Rat) (x : Rat) (A : Nat) (s0 s2 s3 : Sl), (∀ q ∈ qs, Fx N M q) → Fx N A x → A + qs.length * M < 2 ^ 4000 → M < 2 ^ 4000 → ∃ t2 t3, forL (pTup (pCons (pNm 2) (pCons (pNm 3) (pNil)))) b (qs.map fr) [s0, .val (fr x), s2, s3] = .ok .nx [s0, .val (fr (x + sumQ qs)), t2, t3]
  | [], x, A, s0, s2, s3, _, _, _, _ => ⟨s2, s3, by rw [sumQ, Rat.add_zero]; rfl⟩
  | q :: qs, x, A, s0, s2, s3, hq, hx, hA, hM => by
    have h1 := hq q List.mem_cons_self
    rw [List.length_cons, Nat.succ_mul] at hA
    obtain ⟨t2, t3, h⟩ := added_loop hN b hb qs (x + q) (A + M) s0 (.val (.int q.num)) (.val (.int q.den)) (fun r hr => hq r (List.mem_cons_of_mem _ hr)) (hx.add h1) (by omega) hM
    have b1 : Bq x := hx.bq hN (by omega)
    have b2 : Bq q := h1.bq hN hM
    refine ⟨t2, t3, ?_⟩
    rw [List.map_cons, forL_nx (e1 := [s0, .val (fr x), .val (.int q.num), .val (.int q.den)]) (e2 := [s0, .val (fr (x + q)), .val (.int q.num), .val (.int q.den)]) (by simp [fr]) ?_, h, sumQ, Rat.add_assoc]
    rw [hb]
    simp [mul_nd b1 b2, mul_nd b2 b1, mul_dd b1 b2, m_reduced_eq (dd_ne x q) (dd_small b1 b2), add_val]
@[simp] theorem i_items (f : M Sl) (s : Sl) (es : List Sl) : vItems f (s :: es) = (vD f (s :: es)).bind itemsOf := rfl
@[simp] theorem e_for (it : M (List D)) (pat : D → En → Option En) (b : MS) (s : Sl) (es : List Sl) : sFor it pat b (s :: es) = (it (s :: es)).bind fun xs e => forL pat b xs e := rfl
theorem m_added_list {N M : Nat} (hN : 0 < N ∧ N < 2 ^ 4000) {qs : List Rat} (hq : ∀ q ∈ qs, Fx N M q) (hA : qs.length * M < 2 ^ 4000) (hM : M < 2 ^ 4000) : m_added [.list (qs.map fr)] = some (.ret (.val (fr (sumQ qs)))) := by
  obtain ⟨t2, t3, h⟩ := added_loop hN _ rfl qs 0 0 (.val (.list (qs.map fr))) .no .no hq Fx.zero (by omega) hM
  rw [Rat.zero_add] at h
  have e0 : PyData.tuple [.int 0, .int 1] = fr 0 := rfl
  simp only [m_added, runM, g_added, List.length_cons, List.length_nil, if_true]
  simp [startE, e0, h]
theorem m_added_tuple {N M : Nat} (hN : 0 < N ∧ N < 2 ^ 4000) {qs : List Rat} (hq : ∀ q ∈ qs, Fx N M q) (hA : qs.length * M < 2 ^ 4000) (hM : M < 2 ^ 4000) : m_added [.tuple (qs.map fr)] = some (.ret (.val (fr (sumQ qs)))) := by
  obtain ⟨t2, t3, h⟩ := added_loop hN _ rfl qs 0 0 (.val (.tuple (qs.map fr))) .no .no hq Fx.zero (by omega) hM
  rw [Rat.zero_add] at h
  have e0 : PyData.tuple [.int 0, .int 1] = fr 0 := rfl
  simp only [m_added, runM, g_added, List.length_cons, List.length_nil, if_true]
  simp [startE, e0, h]

theorem plus_loop {N M : Nat} (hN : 0 < N) (b : MS)
    (hb : b = sPar [1, 2] (lCons (vOp dAdd (vOp dMul (vVar 1) (vIxv 3 (vC (.int 1)))) (vOp dMul (vIxv 3 (vC (.int 0))) (vVar 2))) (lCons (vOp dMul (vVar 2) (vIxv 3 (vC (.int 1)))) (lNil)))) :
    ∀ (qs : List Rat) (n d : Int) (k : Nat) (s0 s3 : Sl), (∀ q ∈ qs, q.num.natAbs ≤ M ∧ q.den ≤ N) → 0 < d → d ≤ (N ^ k : Nat) → n.natAbs ≤ k * M * N ^ k → (k + qs.length) * M * N ^ (k + qs.length) < 2 ^ 8000 → N ^ (k + qs.length) < 2 ^ 8000 → M < 2 ^ 8000 →
      ∃ n' d' t3, forL (pNm 3) b (qs.map fr) [s0, .val (.int n), .val (.int d), s3] = .ok .nx [s0, .val (.int n'), .val (.int d'), t3] ∧ 0 < d' ∧ d' ≤ (N ^ (k + qs.length) : Nat) ∧ Rat.divInt n' d' = Rat.divInt n d + sumQ qs
  | [], n, d, k, s0, s3, _, h1, h2, _, _, _, _ => ⟨n, d, s3, rfl, h1, h2, by rw [sumQ, Rat.add_zero]⟩
  | q :: qs, n, d, k, s0, s3, hq, h1, h2, h3, h4, h5, h6 => by
    obtain ⟨c1, c2⟩ := hq q List.mem_cons_self
    have hd := q.den_pos
    have el : k + (q :: qs).length = k + 1 + qs.length := by rw [List.length_cons]; omega
    rw [el] at h4 h5
    have hNk : N ^ k ≤ N ^ (k + 1 + qs.length) := Nat.pow_le_pow_right hN (by omega)
    have hMk : k * M * N ^ k ≤ (k + 1 + qs.length) * M * N ^ (k + 1 + qs.length) := Nat.mul_le_mul (Nat.mul_le_mul_right _ (by omega)) hNk
    have hN1 : N ≤ N ^ (k + 1 + qs.length) := by
      calc N = N ^ 1 := (Nat.pow_one N).symm
        _ ≤ _ := Nat.pow_le_pow_right hN (by omega)
    have d2 : d * q.den ≤ (N ^ (k + 1) : Nat) := by
      have : d.natAbs * q.den ≤ N ^ k * N := Nat.mul_le_mul (by omega) c2
      rw [← Nat.pow_succ] at this
      have e : d * q.den = ((d.natAbs * q.den : Nat) : Int) := by rw [Int.natCast_mul]; congr 1; omega
      rw [e]
      exact_mod_cast this
    have n2 : (n * q.den + q.num * d).natAbs ≤ (k + 1) * M * N ^ (k + 1) := by
      have a1 : (n * q.den).natAbs ≤ k * M * N ^ k * N := by rw [Int.natAbs_mul, Int.natAbs_natCast]; exact Nat.mul_le_mul h3 c2
      have a2 : (q.num * d).natAbs ≤ M * N ^ k := by rw [Int.natAbs_mul]; exact Nat.mul_le_mul c1 (by omega)
      have a3 : M * N ^ k ≤ M * N ^ (k + 1) := Nat.mul_le_mul_left _ (Nat.pow_le_pow_right hN (by omega))
      have a4 := Int.natAbs_add_le (n * q.den) (q.num * d)
      have a5 : k * M * N ^ k * N = k * M * N ^ (k + 1) := by rw [Nat.pow_succ, Nat.mul_assoc (k * M)]
      have a6 : (k + 1) * M * N ^ (k + 1) = k * M * N ^ (k + 1) + M * N ^ (k + 1) := by rw [Nat.succ_mul, Nat.add_mul]
      omega
    obtain ⟨n', d', t3, g1, g2, g3, g4⟩ := plus_loop hN b hb qs (n * q.den + q.num * d) (d * q.den) (k + 1) s0 (.val (fr q)) (fun r hr => hq r (List.mem_cons_of_mem _ hr)) (Int.mul_pos h1 (by omega)) d2 n2 h4 h5 h6
    refine ⟨n', d', t3, ?_, g2, by rw [el]; exact g3, ?_⟩
    · rw [List.map_cons, forL_nx (e1 := [s0, .val (.int n), .val (.int d), .val (fr q)]) (e2 := [s0, .val (.int (n * q.den + q.num * d)), .val (.int (d * q.den)), .val (fr q)]) (by simp) ?_, g1]
      have b1 : n.natAbs < 2 ^ 40000 := up (k := 8000) (by omega) (by decide)
      have b2 : d.natAbs < 2 ^ 40000 := up (k := 8000) (by omega) (by decide)
      have b3 : q.num.natAbs < 2 ^ 40000 := up (k := 8000) (by omega) (by decide)
      have b4 : (q.den : Int).natAbs < 2 ^ 40000 := up (k := 8000) (by rw [Int.natAbs_natCast]; omega) (by decide)
      rw [hb]
      simp [mulOk_of b1 b4, mulOk_of b3 b2, mulOk_of b2 b4]
    · rw [g4, sumQ, ← Rat.add_assoc]
      congr 1
      conv => rhs; rw [← Rat.num_divInt_den q]
      rw [Rat.divInt_add_divInt _ _ (by omega) (by omega)]
theorem m_plus_bn {N M : Nat} (hN : 0 < N) {qs : List Rat} {d0 : D} (h0 : d0 = .list (qs.map fr) ∨ d0 = .tuple (qs.map fr)) (hq : ∀ q ∈ qs, q.num.natAbs ≤ M ∧ q.den ≤ N) (h4 : qs.length * M * N ^ qs.length < 2 ^ 8000) (h5 : N ^ qs.length < 2 ^ 8000) (h6 : M < 2 ^ 8000) :
    m__law_plus [d0] = some (.ret (.val (fr (sumQ qs)))) := by
  obtain ⟨n', d', t3, g1, g2, g3, g4⟩ := plus_loop hN _ rfl qs 0 1 0 (.val d0) .no hq (by decide) (by simp) (by simp) (by rw [Nat.zero_add]; exact h4) (by rw [Nat.zero_add]; exact h5) h6
  have hz : Rat.divInt 0 1 = 0 := rfl
  rw [hz, Rat.zero_add] at g4
  rw [Nat.zero_add] at g3
  have hs : d'.natAbs < 2 ^ 9000 := up (k := 8000) (by omega) (by decide)
  have hr := m_ratio_eq (a := n') (b := d') (by omega) hs
  simp only [m__law_plus, runM, g__law_plus, List.length_cons, List.length_nil, if_true]
  rcases h0 with rfl | rfl
  · simp [startE, g1, hr, g4]
  · simp [startE, g1, hr, g4]
theorem m_plus_of {N M : Nat} (hN : 0 < N) {qs : List Rat} {d0 : D} (h0 : d0 = .list (qs.map fr) ∨ d0 = .tuple (qs.map fr)) (hq : ∀ q ∈ qs, Fx N M q) (h4 : qs.length * M * N ^ qs.length < 2 ^ 8000) (h5 : N ^ qs.length < 2 ^ 8000) (h6 : M < 2 ^ 8000) :
    m__law_plus [d0] = some (.ret (.val (fr (sumQ qs)))) := m_plus_bn hN h0 (fun q hq' => (hq q hq').num hN) h4 h5 h6
end Fr

namespace Fr
open PySem Mv Sh

section
variable (f g : M Sl) (l h : M (Option Int)) (c : M Bool) (gs : M (List D)) (s : Sl) (es : List Sl) (i : Nat) (o o2 : D → D → Option Sl) (op : Int → Int → Int) (mb : List D → List D → Option (Out × List D))
@[simp] theorem e_sl : vSl f l h (s :: es) = (vD f (s :: es)).bind fun d e => (l e).bind fun lo e2 => (h e2).bind fun hi e3 => opt (dSl d lo hi) e3 := rfl
def optInt : D → En → R (Option Int)
  | .int i, e => .ok (some i) e
  | _, _ => .bad
@[simp] theorem optInt_int (i : Int) (e : En) : optInt (.int i) e = .ok (some i) e := rfl
@[simp] theorem e_osome : oSome f (s :: es) = (vD f (s :: es)).bind optInt := by
  unfold oSome
  cases vD f (s :: es) with
  | ok d e => cases d <;> rfl
  | exc c fs e => rfl
  | bad => rfl
@[simp] theorem e_onone : oNone (s :: es) = .ok none (s :: es) := rfl
@[simp] theorem e_augS (fk : M Sl) : sAugS i op fk f (s :: es) = ownAt i (s :: es) fun _ _ => (vD fk (s :: es)).bind fun k e => ownAt i e fun _ xs => match dIx (.list xs) k with
  | some (.val (.int x)) => (vD f e).bind fun d e2 => match d with
    | .int y => setAt i k (.int (op x y)) e2
    | _ => .bad
  | _ => .bad := rfl
@[simp] theorem e_store (fk : M Sl) : sStore i fk f (s :: es) = (vD f (s :: es)).bind fun d e => ownAt i e fun _ _ => (vD fk e).bind fun k e2 => setAt i k d e2 := rfl
@[simp] theorem e_app : sApp i f (s :: es) = ownAt i (s :: es) fun _ _ => (vD f (s :: es)).bind fun d e => ownAt i e fun b xs => if xs.length < LIM then .ok .nx (e.set i (.own b (xs ++ [d]))) else .bad := rfl
@[simp] theorem e_len : vLenv i (s :: es) = match (s :: es)[i]? with
  | some (.val d) => opt (dLen [d]) (s :: es)
  | some (.own _ xs) => .ok (.val (.int xs.length)) (s :: es)
  | _ => .bad := rfl
@[simp] theorem e_callB : vCallB i mb gs (s :: es) = ownE i (s :: es) fun _ _ => (gs (s :: es)).bind fun ds e => ownE i e fun b xs => callB i (mb xs ds) b e := rfl
@[simp] theorem e_aug : sAug i op f (s :: es) = match (s :: es)[i]? with
  | some (.val (.int x)) => (vD f (s :: es)).bind fun d e => match d with
    | .int y => .ok .nx (e.set i (.val (.int (op x y))))
    | _ => .bad
  | _ => .bad := rfl
@[simp] theorem e_rng1 : vRng1 gs (s :: es) = (gs (s :: es)).bind rngR := rfl
theorem rng_nat {n : Nat} (h : n < 1000000) (e : En) : rngR [.int (n : Int)] e = .ok (rngD 0 n) e := by
  show (if (n : Int).natAbs < 1000000000 then R.ok (rngD 0 (n : Int).toNat) e else .bad) = _
  rw [if_pos (by omega),
                                                                                                                Int.toNat_natCast]
@[simp] theorem e_enum : vEnum gs (s :: es) = (gs (s :: es)).bind fun ds e => match ds with
    | [d] => match seqOf d with
      | some es => .ok (enumD es) e
      | none => .bad
    | _ => .bad := rfl
@[simp] theorem e_zip : vZip gs (s :: es) = (gs (s :: es)).bind fun ds e => match ds with
    | [d, d2] => match seqOf d, seqOf d2 with
      | some es, some es2 => .ok (zipD es es2) e
      | _, _ => .bad
    | _ => .bad := rfl
@[simp] theorem e_asg (pat : D → En → Option En) : sAsg pat f (s :: es) = (vD f (s :: es)).bind fun d e => match pat d e with
  | some e2 => .ok .nx e2
  | none => .bad := rfl
@[simp] theorem e_star : vStar f gs (s :: es) = (vD f (s :: es)).bind fun d e => match seqOf d with
  | some xs => (gs e).bind fun ds e2 => .ok (xs ++ ds) e2
  | none => .bad := rfl
@[simp] theorem e_lc (it : M (List D)) (pat : D → En → Option En) (tt : M Bool) (el : M Sl) (vs : List Nat) : vLc it pat tt el vs (s :: es) = (it (s :: es)).bind fun xs e => if noOwn e vs = true ∧ xs.length ≤ LIM then
  (match lcL pat tt el vs xs (wipeE e vs) with
    | .ok ys e' => .ok (.own false ys) (backE e' e vs)
    | _ => .bad) else .bad := rfl
@[simp] theorem e_yes : bYes (s :: es) = .ok true (s :: es) := rfl
@[simp] theorem e_ownAt (k : Bool → List D → R Fl) : ownAt i (s :: es) k = match (s :: es)[i]? with
  | some (.own b xs) => k b xs
  | _ => .bad := rfl
@[simp] theorem e_ownE {α : Type} (k : Bool → List D → R α) : ownE i (s :: es) k = match (s :: es)[i]? with
  | some (.own b xs) => k b xs
  | _ => .bad := rfl
@[simp] theorem e_setAt (k : Int) (d : D) : setAt i (.int k) d (s :: es) = ownAt i (s :: es) fun b xs => match L2.ixN xs.length k with
  | some j => .ok .nx ((s :: es).set i (.own b (xs.set j d)))
  | none => .bad := rfl
@[simp] theorem ix40 : L2.ixN 4 0 = some 0 := rfl
@[simp] theorem ix41 : L2.ixN 4 1 = some 1 := rfl
@[simp] theorem ix42 : L2.ixN 4 2 = some 2 := rfl
@[simp] theorem e_outB (r : Sl) (ys : List D) : outB (.ok (.rt r) (.own true ys :: es)) = some (.ret r, ys) := rfl
@[simp high] theorem e_lst0 : vLst vNil (s :: es) = .ok (.own false []) (s :: es) := by
  show opt (if ([] : List D).length ≤ LIM then some (Sl.own false []) else none) (s :: es) = _
  rw [if_pos (show ([] : List D).length ≤ LIM from Nat.zero_le _)]
  rfl
@[simp] theorem seq_list (ds : List D) : seqOf (.list ds) = some ds := rfl
@[simp] theorem seq_tuple (ds : List D) : seqOf (.tuple ds) = some ds := rfl
end
@[simp] theorem len_list (xs : List D) : dLen [.list xs] = some (.val (.int xs.length)) := rfl
@[simp] theorem len_tuple (xs : List D) : dLen [.tuple xs] = some (.val (.int xs.length)) := rfl
@[simp] theorem callB_ret (i : Nat) (r : Sl) (ys : List D) (b : Bool) (e : En) : callB i (some (.ret r, ys)) b e = .ok r (e.set i (.own b ys)) := rfl
@[simp] theorem add_lists (xs ys : List D) : dAdd (.list xs) (.list ys) = if xs.length + ys.length ≤ LIM then some (.own false (xs ++ ys)) else none := rfl
@[simp] theorem add_tuples (xs ys : List D) : dAdd (.tuple xs) (.tuple ys) = if xs.length + ys.length ≤ LIM then some (.val (.tuple (xs ++ ys))) else none := rfl
@[simp] theorem atI2 {α : Type} (a b c : α) (l : List α) : L2.atI (a :: b :: c :: l) 2 = some c := by
  unfold L2.atI L2.ixN
  rw [if_pos (by decide), if_pos (by simp; omega)]
  rfl
@[simp] theorem atI3 {α : Type} (a b c d : α) (l : List α) : L2.atI (a :: b :: c :: d :: l) 3 = some d := by
  unfold L2.atI L2.ixN
  rw [if_pos (by decide), if_pos (by simp; omega)]
  rfl
theorem ix_nat {n j : Nat} (h : j < n) : L2.ixN n (j : Int) = some j := by
  unfold L2.ixN
  rw [if_pos (by omega),
                                                                                                                if_pos (by omega)]
  simp

/-! ### the bag -/
structure Bag (b0 b1 b2 : Int) (cs : List Int) : Prop where
  p0 : 0 ≤ b0
  p1 : 0 ≤ b1
  q1 : b1 < 2147483648
  p2 : 0 ≤ b2
  pc : ∀ c ∈ cs, 0 ≤ c
  len : cs.length ≤ 63
def bagD (b0 b1 b2 : Int) (cs : List Int) : List D := [.int b0, .int b1, .int b2, .list (cs.map PyData.int)]
def BagOk (xs : List D) : Prop := ∃ b0 b1 b2 cs, xs = bagD b0 b1 b2 cs ∧ Bag b0 b1 b2 cs
theorem cut_first {cs : List Int} (h : ∀ c ∈ cs, 0 ≤ c) (lo : Option Int) : ∃ c : Int, 0 ≤ c ∧ L2.atI (cutD (cs.map PyData.int) lo none ++ [PyData.int 0]) 0 = some (.int c) := by
  cases hc : cutD (cs.map PyData.int) lo none with
  | nil => exact ⟨0, by decide, rfl⟩
  | cons d ds =>
    have hm : d ∈ cs.map PyData.int := by
      have : d ∈ cutD (cs.map PyData.int) lo none := by rw [hc]; exact List.mem_cons_self
      exact List.mem_of_mem_drop (List.mem_of_mem_take this)
    obtain ⟨c, hc1, rfl⟩ := List.mem_map.mp hm
    exact ⟨c, h c hc1, by rw [List.cons_append]; exact atI0 _ _⟩
theorem cut_len (xs : List D) (lo hi : Option Int) : (cutD xs lo hi).length ≤ xs.length := by
  unfold cutD
  rw [List.length_take,
                                                                                                                List.length_drop]
  omega
theorem fmod_rng {a m : Int} (h : 0 < m) : 0 ≤ a.fmod m ∧ a.fmod m < m := ⟨Int.fmod_nonneg_of_pos a h, Int.fmod_lt_of_pos a h⟩
theorem fd_nonneg {a m : Int} (ha : 0 ≤ a) (h : 0 < m) : 0 ≤ a.fdiv m := by rw [Int.fdiv_eq_ediv_of_nonneg _ (Int.le_of_lt h)]; exact Int.ediv_nonneg ha (Int.le_of_lt h)
theorem many_log {many : Int} (h0 : 0 < many) (h1 : many < 2 ^ 64) : many.natAbs.log2 < 9000 := by
  have := log2_lt (n := many.natAbs) (k := 64) (by decide) (by omega)
  omega
theorem log7 : Nat.log2 7 < 9000 := by decide
theorem take_ok {xs : List D} (hb : BagOk xs) {many : Int} (h0 : 0 < many) (h1 : many < 2 ^ 64) : ∃ v ys, m__law_take xs [.int many] = some (.ret (.val (.int v)), ys) ∧ 0 ≤ v ∧ v < many ∧ BagOk ys := by
  obtain ⟨b0, b1, b2, cs, rfl, B⟩ := hb
  have hm0 : many ≠ 0 := by omega
  have hlog := many_log h0 h1
  by_cases hz : b0 = 0
  · subst hz
    obtain ⟨c, hc, hcut⟩ := cut_first B.pc (some b2)
    have hl : (cutD (cs.map PyData.int) (some b2) none).length + 1 ≤ 1000000 := by
      have := cut_len (cs.map PyData.int) (some b2) none
      have := B.len
      simp at *
      omega
    have m1 : mulOk b1 48271 := .inr (.inr ⟨by decide, by decide⟩)
    have m2 : mulOk 7919 (b2 + 1) := .inr (.inl ⟨by decide, by decide⟩)
    have hs1 := fmod_rng (a := b1 * 48271 + c.fmod 2147483647 + 7919 * (b2 + 1)) (m := 2147483647) (by decide)
    by_cases hbig : 1000000000000000000 ≤ c
    · have hcp : 0 < c := by omega
      refine ⟨c.fmod many, bagD (c.fdiv many) ((b1 * 48271 + c.fmod 2147483647 + 7919 * (b2 + 1)).fmod 2147483647) (b2 + 1) cs, ?_, (fmod_rng h0).1, (fmod_rng h0).2, _, _, _, _, rfl, ⟨fd_nonneg hc h0, hs1.1, by omega, by have := B.p2; omega, B.pc, B.len⟩⟩
      simp [m__law_take, g__law_take, runB, startE, bagD, lim_is, hl, hcut, dPow, hbig, m1, m2, dMod, hcp, hm0, hlog]
    · generalize hS : (b1 * 48271 + c.fmod 2147483647 + 7919 * (b2 + 1)).fmod 2147483647 = S at hs1
      have m3 : mulOk (S + 1) 39373 := .inr (.inr ⟨by decide, by decide⟩)
      have hb := fmod_rng (a := (S + 1) * 39373) (m := 1000000007) (by decide)
      generalize hB : ((S + 1) * 39373).fmod 1000000007 = T at hb
      have m4 : mulOk T T := .inr (.inl ⟨by omega, by omega⟩)
      have m5 : mulOk ((T * T).fmod 998244353) 30011 := .inr (.inr ⟨by decide, by decide⟩)
      refine ⟨((((T * T).fmod 998244353 * 30011).fmod 998244353).fdiv 7).fmod many, bagD 0 S (b2 + 1) cs, ?_, (fmod_rng h0).1, (fmod_rng h0).2, _, _, _, _, rfl, ⟨by decide, hs1.1, by omega, by have := B.p2; omega, B.pc, B.len⟩⟩
      simp [m__law_take, g__law_take, runB, startE, bagD, lim_is, hl, hcut, dPow, hbig, m1, m2, dMod, hm0, hlog, hS, m3, hB, m4, m5, log7]
  · have hp : 0 < b0 := by have := B.p0; omega
    refine ⟨b0.fmod many, bagD (b0.fdiv many) b1 b2 cs, ?_, (fmod_rng h0).1, (fmod_rng h0).2, _, _, _, _, rfl, ⟨fd_nonneg B.p0 h0, B.p1, B.q1, B.p2, B.pc, B.len⟩⟩
    simp [m__law_take, g__law_take, runB, startE, bagD, hz, hp, dMod, hm0, hlog]
theorem at_mem {ds : List D} {v : Int} (h0 : 0 ≤ v) (h1 : v < ds.length) : ∃ d, L2.atI ds v = some d ∧ d ∈ ds := by
  have hj : v.toNat < ds.length := by omega
  refine ⟨ds[v.toNat], ?_, List.getElem_mem hj⟩
  have e := ix_nat hj
  rw [show ((v.toNat : Nat) : Int) = v by omega] at e
  unfold L2.atI
  rw [e]
  exact List.getElem?_eq_getElem hj
theorem one_list {xs : List D} (hb : BagOk xs) {ds : List D} (h0 : ds ≠ []) (h1 : ds.length < 1000000) : ∃ v ys, m__law_one xs [.list ds] = some (.ret (.val v), ys) ∧ v ∈ ds ∧ BagOk ys := by
  have hl : 0 < ds.length := List.length_pos_iff.mpr h0
  obtain ⟨v, ys, h, h2, h3, h4⟩ := take_ok hb (many := ds.length) (by omega) (by omega)
  obtain ⟨d, h5, h6⟩ := at_mem h2 h3
  refine ⟨d, ys, ?_, h6, h4⟩
  simp [m__law_one, g__law_one, runB, startE, h, h5]
theorem one_tuple {xs : List D} (hb : BagOk xs) {ds : List D} (h0 : ds ≠ []) (h1 : ds.length < 1000000) : ∃ v ys, m__law_one xs [.tuple ds] = some (.ret (.val v), ys) ∧ v ∈ ds ∧ BagOk ys := by
  have hl : 0 < ds.length := List.length_pos_iff.mpr h0
  obtain ⟨v, ys, h, h2, h3, h4⟩ := take_ok hb (many := ds.length) (by omega) (by omega)
  obtain ⟨d, h5, h6⟩ := at_mem h2 h3
  refine ⟨d, ys, ?_, h6, h4⟩
  simp [m__law_one, g__law_one, runB, startE, h, h5]
mutual
theorem eqv_self : ∀ d : D, d.canLay0 = true → PyData.eqv d d = true
  | .none, _ =>
                                                                                                                by simp [PyData.eqv]
  | .bool _, _ =>
                                                                                                                by simp [PyData.eqv]
  | .int _, _ =>
                                                                                                                by simp [PyData.eqv]
  | .str _, _ =>
                                                                                                                by simp [PyData.eqv]
  | .list xs, h => by simp only [PyData.eqv]; exact eqvs_self xs (by simpa only [PyData.canLay0] using h)
  | .tuple xs, h => by simp only [PyData.eqv]; exact eqvs_self xs (by simpa only [PyData.canLay0] using h)
  | .dict _, h => by simp [PyData.canLay0] at h
theorem eqvs_self : ∀ ds : List D, PyData.canLayAll0 ds = true → PyData.eqvAll ds ds = true
  | [], _ =>
                                                                                                                by simp [PyData.eqvAll]
  | d :: ds, h => by
    have h' : d.canLay0 = true ∧ PyData.canLayAll0 ds = true := by simpa [PyData.canLayAll0] using h
    simp only [PyData.eqvAll, eqv_self d h'.1, eqvs_self ds h'.2, Bool.and_self]
end
/-- what may be compared and told -/
def Tell (d : D) : Prop := SeqAt.shaped d = true ∧ repOk d
theorem shaped_lay {d : D} (h : SeqAt.shaped d = true) : d.canLay0 = true := SeqAt.canLay_of_shaped h
theorem eq_self {d : D} (h : SeqAt.shaped d = true) : dEq d d = some (.val (.bool true)) := by
  have e1 := eqv_self d (shaped_lay h)
  unfold dEq
  split
  · simp
  · rw [if_pos ⟨h, h⟩, e1]
theorem alike_ok {d : D} (h : Tell d) : m__law_alike [d, d] = some (.ret (.val (.bool true))) := by
  simp [m__law_alike, g__law_alike, runM, startE, eq_self h.1, dRepr, h.2]
end Fr

namespace Fr
open PySem Mv Sh

@[simp] theorem min_int (a b : Int) : dMin [.int a, .int b] = some (.val (.int (min a b))) := rfl
@[simp] theorem max_int (a b : Int) : dMax [.int a, .int b] = some (.val (.int (max a b))) := rfl
def prD (a b : Int) : D := .tuple [.int a, .int b]
theorem bounds_ok {xs : List D} (hb : BagOk xs) {most : Int} (h0 : 0 ≤ most) (h1 : most < 1000000) : ∃ a b ys, m__law_bounds xs [.int most] = some (.ret (.val (prD a b)), ys) ∧ 0 ≤ a ∧ a ≤ b ∧ b ≤ most ∧ BagOk ys := by
  obtain ⟨v, y1, e1, v0, v1, B1⟩ := take_ok hb (many := most + 1) (by omega) (by omega)
  obtain ⟨d, y2, e2, hd, B2⟩ := one_list B1 (ds := [.int 1, .int 2, .int 0, .int most, .int v]) (by simp) (by simp)
  obtain ⟨one, rfl, o0, o1⟩ : ∃ z : Int, d = .int z ∧ 0 ≤ z ∧ z < 1000002 := by
    simp only [List.mem_cons, List.not_mem_nil, or_false] at hd
    rcases hd with rfl | rfl | rfl | rfl | rfl
    · exact ⟨1, rfl, by omega, by omega⟩
    · exact ⟨2, rfl, by omega, by omega⟩
    · exact ⟨0, rfl, by omega, by omega⟩
    · exact ⟨most, rfl, by omega, by omega⟩
    · exact ⟨v, rfl, by omega, by omega⟩
  obtain ⟨u, y3, e3, u0, u1, B3⟩ := take_ok B2 (many := 4) (by omega) (by omega)
  obtain ⟨d, y4, e4, hd, B4⟩ := one_list B3 (ds := [.int one, .int (one + 1), .int one, .int most, .int (2 * one), .int (one + u)]) (by simp) (by simp)
  obtain ⟨other, rfl, p0⟩ : ∃ z : Int, d = .int z ∧ 0 ≤ z := by
    simp only [List.mem_cons, List.not_mem_nil, or_false] at hd
    rcases hd with rfl | rfl | rfl | rfl | rfl | rfl
    · exact ⟨_, rfl, by omega⟩
    · exact ⟨_, rfl, by omega⟩
    · exact ⟨_, rfl, by omega⟩
    · exact ⟨_, rfl, by omega⟩
    · exact ⟨_, rfl, by omega⟩
    · exact ⟨_, rfl, by omega⟩
  have m2 : mulOk 2 one := .inr (.inl ⟨by decide, by decide⟩)
  refine ⟨min (min one most) (min other most), max (min one most) (min other most), y4, ?_, by omega, by omega, by omega, B4⟩
  simp [m__law_bounds, g__law_bounds, runB, startE, lim_is, e1, e2, e3, e4, m2, prD]

/-! ### spans -/
def sp (p : Rat × Rat) : D := .tuple [fr p.1, fr p.2]
@[simp] theorem sp0 (p : Rat × Rat) : dIx (sp p) (.int 0) = some (.val (fr p.1)) := rfl
@[simp] theorem sp1 (p : Rat × Rat) : dIx (sp p) (.int 1) = some (.val (fr p.2)) := rfl
/-- a span of whole numbers of N-ths -/
structure Span (N M : Nat) (p : Rat × Rat) : Prop where
  lo : 0 ≤ p.1
  le : p.1 ≤ p.2
  f1 : Fx N M p.1
  f2 : Fx N M p.2
theorem divInt_fx {z d : Int} {N M : Nat} (hd : 0 < d) (hN : 0 < N) {k : Nat} (hk : (N : Int) = d * k) (hM : (z.natAbs) * k ≤ M) : Fx N M (Rat.divInt z d) := by
  refine ⟨z * k, by rw [Int.natAbs_mul, Int.natAbs_natCast]; exact hM, ?_⟩
  have hk0 : (k : Int) ≠ 0 := by
    intro e
    rw [e, Int.mul_zero] at hk
    omega
  rw [hk, Rat.divInt_mul_right hk0]
theorem divInt_le {a b d : Int} (hd : 0 < d) (h : a ≤ b) : Rat.divInt a d ≤ Rat.divInt b d := by
  rw [Rat.divInt_eq_div, Rat.divInt_eq_div, Rat.div_def, Rat.div_def]
  have hp : (0 : Rat) < (d : Rat) := Rat.intCast_pos.mpr hd
  exact Rat.mul_le_mul_of_nonneg_right (Rat.intCast_le_intCast.mpr h) (Rat.le_of_lt (Rat.inv_pos.mpr hp))
theorem divInt_nn {a d : Int} (hd : 0 < d) (h : 0 ≤ a) : 0 ≤ Rat.divInt a d := Rat.divInt_nonneg h (by omega)
/-- a loop that runs to its end -/
theorem for_inv {pat : D → En → Option En} {b : MS} (I : List D → En → Prop) (stp : ∀ d ds e, I (d :: ds) e → ∃ e1 e2, pat d e = some e1 ∧ b e1 = .ok .nx e2 ∧ I ds e2) : ∀ (ds : List D) (e : En), I ds e → ∃ e', forL pat b ds e = .ok .nx e' ∧ I [] e'
  | [], e, h => ⟨e, rfl, h⟩
  | d :: ds, e, h => by
    obtain ⟨e1, e2, h1, h2, h3⟩ := stp d ds e h
    obtain ⟨e', h4, h5⟩ := for_inv I stp ds e2 h3
    exact ⟨e', by rw [forL_nx h1 h2]; exact h4, h5⟩
theorem rng_len (a : Int) (n : Nat) : (rngD a n).length = n := by simp [rngD]
theorem den_cases {d : D} (h : d ∈ ([.int 1, .int 1, .int 2, .int 3, .int 6] : List D)) : ∃ (z : Int) (k : Nat), d = .int z ∧ 0 < z ∧ z ≤ 6 ∧ (6 : Int) = z * k ∧ k ≤ 6 := by
  simp only [List.mem_cons, List.not_mem_nil, or_false] at h
  rcases h with rfl | rfl | rfl | rfl | rfl
  · exact ⟨1, 6, rfl, by decide, by decide, by decide, by decide⟩
  · exact ⟨1, 6, rfl, by decide, by decide, by decide, by decide⟩
  · exact ⟨2, 3, rfl, by decide, by decide, by decide, by decide⟩
  · exact ⟨3, 2, rfl, by decide, by decide, by decide, by decide⟩
  · exact ⟨6, 1, rfl, by decide, by decide, by decide, by decide⟩
theorem ratio_k {a z : Int} (z0 : 0 < z) (z6 : z ≤ 1000) : m__law_ratio [.int a, .int z] = some (.ret (.val (fr (Rat.divInt a z)))) :=
  m_ratio_eq (by omega) (up (k := 10) (by omega) (by decide))
def SpI (many most : Nat) (ds : List D) (e : En) : Prop := ∃ (ss : List (Rat × Rat)) (ys : List D) (s4 s5 s6 s7 : Sl), e = [.own true ys, .val (.int many), .val (.int most), .own false (ss.map sp), s4, s5, s6, s7] ∧ BagOk ys ∧ ss.length + ds.length = many ∧ ∀ p ∈ ss, Span 6 (6 * most) p
def spB : MS := sSeq (sSet 5 (vCallB 0 m__law_one (vCons (vLst (vCons (vC (.int 1)) (vCons (vC (.int 1)) (vCons (vC (.int 2)) (vCons (vC (.int 3)) (vCons (vC (.int 6)) (vNil))))))) (vNil)))) (sSeq (sAsg (pTup (pCons (pNm 6) (pCons (pNm 7) (pNil)))) (vCallB 0 m__law_bounds (vCons (vVar 2) (vNil)))) (sApp 3 (vTup (vCons (vCall m__law_ratio (vCons (vVar 6) (vCons (vVar 5) (vNil)))) (vCons (vCall m__law_ratio (vCons (vVar 7) (vCons (vVar 5) (vNil)))) (vNil))))))
theorem spans_step {many most : Nat} (h0 : many < 1000) (h1 : most < 1000000) (d : D) (ds : List D) (e : En) (h : SpI many most (d :: ds) e) : ∃ e1 e2, pNm 4 d e = some e1 ∧ spB e1 = .ok .nx e2 ∧ SpI many most ds e2 := by
  obtain ⟨ss, ys, s4, s5, s6, s7, rfl, B, len, al⟩ := h
  obtain ⟨d5, y2, e2, hd, B2⟩ := one_list B (ds := [.int 1, .int 1, .int 2, .int 3, .int 6]) (by simp) (by simp)
  obtain ⟨z, k, rfl, z0, z6, hk, k6⟩ := den_cases hd
  obtain ⟨a, b, y3, e3, a0, ab, bm, B3⟩ := bounds_ok B2 (most := most) (by omega) (by omega)
  have ra := ratio_k (a := a) z0 (by omega)
  have rb := ratio_k (a := b) z0 (by omega)
  rw [List.length_cons] at len
  have hlen : ss.length < 1000000 := by omega
  refine ⟨[.own true ys, .val (.int many), .val (.int most), .own false (ss.map sp), .val d, s5, s6, s7], [.own true y3, .val (.int many), .val (.int most), .own false ((ss ++ [(Rat.divInt a z, Rat.divInt b z)]).map sp), .val d, .val (.int z), .val (.int a), .val (.int b)], rfl, ?_, ss ++ [(Rat.divInt a z, Rat.divInt b z)], y3, _, _, _, _, rfl, B3, ?_, fun p hp => ?_⟩
  · simp [spB, lim_is, e2, e3, prD, ra, rb, hlen, sp]
  · rw [List.length_append,
                                                                                                                  List.length_singleton]
    omega
  · rcases List.mem_append.mp hp with
                                                                                                                  hp | hp
    · exact al p hp
    · cases List.mem_singleton.mp hp
      have ka : a.natAbs * k ≤ most * 6 := Nat.mul_le_mul (by omega) k6
      have kb : b.natAbs * k ≤ most * 6 := Nat.mul_le_mul (by omega) k6
      rw [Nat.mul_comm most 6] at ka kb
      exact ⟨divInt_nn z0 a0, divInt_le z0 ab, divInt_fx z0 (by decide) hk ka, divInt_fx z0 (by decide) hk kb⟩
theorem spans_ok {xs : List D} (hb : BagOk xs) {many : Nat} {most : Nat} (h0 : many < 1000) (h1 : most < 1000000) : ∃ (ss : List (Rat × Rat)) (ys : List D), m__law_spans xs [.int many, .int most] = some (.ret (.val (.tuple (ss.map sp))), ys) ∧ BagOk ys ∧ ss.length = many ∧ ∀ p ∈ ss, Span 6 (6 * most) p := by
  obtain ⟨e', hl, ss, ys, s4, s5, s6, s7, rfl, B, len, al⟩ := for_inv (SpI many most) (spans_step h0 h1) (rngD 0 many) [.own true xs, .val (.int many), .val (.int most), .own false [], .no, .no, .no, .no]
    ⟨[], xs, .no, .no, .no, .no, rfl, hb, by rw [rng_len]; simp, fun p hp => (List.not_mem_nil hp).elim⟩
  refine ⟨ss, ys, ?_, B, by simpa using len, al⟩
  have hr := rng_nat (n := many) (by omega)
  have hl' : forL (pNm 4) spB (rngD 0 many) [.own true xs, .val (.int many), .val (.int most), .own false [], .no, .no, .no, .no] = _ := hl
  unfold spB at hl'
  simp only [m__law_spans, runB, g__law_spans, List.length_cons, List.length_nil, if_true]
  simp [startE, lim_is, hr, hl', dTuple]
end Fr

namespace Fr
open PySem Mv Sh

@[simp] theorem lcL_nil (pat : D → En → Option En) (tt : M Bool) (el : M Sl) (vs : List Nat) (e : En) : lcL pat tt el vs [] e = .ok [] e := rfl
/-- a turn that gives an item; one that gives none -/
theorem lcL_yes {pat : D → En → Option En} {tt : M Bool} {el : M Sl} {vs : List Nat} {d y : D} {ds ys : List D} {e e1 e2 e3 e4 : En} (h1 : pat d e = some e1) (h2 : tt e1 = .ok true e2) (h3 : vD el e2 = .ok y e3) (h4 : lcL pat tt el vs ds (wipeE e3 vs) = .ok ys e4) :
    lcL pat tt el vs (d :: ds) e = .ok (y :: ys) e4 := by
  simp only [lcL, h1, h2, h3, noX_ok, R.bind_ok, if_true, h4]
theorem lcL_no {pat : D → En → Option En} {tt : M Bool} {el : M Sl} {vs : List Nat} {d : D} {ds ys : List D} {e e1 e2 e4 : En} (h1 : pat d e = some e1) (h2 : tt e1 = .ok false e2) (h4 : lcL pat tt el vs ds (wipeE e2 vs) = .ok ys e4) :
    lcL pat tt el vs (d :: ds) e = .ok ys e4 := by
  simp only [lcL, h1, h2, noX_ok, R.bind_ok, Bool.false_eq_true, if_false, h4]
/-- every turn gives an item, and nothing else changes -/
theorem lcL_map {α : Type} {pat : D → En → Option En} {el : M Sl} {vs : List Nat} {e : En} (a : α → D) (b : α → D) : ∀ (xs : List α), (∀ x ∈ xs, ∃ s es e3, pat (a x) e = some (s :: es) ∧ vD el (s :: es) = .ok (b x) e3 ∧ wipeE e3 vs = e) → lcL pat bYes el vs (xs.map a) e = .ok (xs.map b) e
  | [], _ => rfl
  | x :: xs, h => by
    obtain ⟨s, es, e3, h1, h2, h3⟩ := h x List.mem_cons_self
    have ih := lcL_map (pat := pat) (el := el) (vs := vs) (e := e) a b xs fun y hy => h y (List.mem_cons_of_mem _ hy)
    exact lcL_yes h1 rfl h2 (by rw [h3]; exact ih)
/-- only the items that pass -/
theorem lcL_filter {α : Type} {pat : D → En → Option En} {tt : M Bool} {el : M Sl} {vs : List Nat} {e : En} (a : α → D) (p : α → Bool) (b : α → D) : ∀ (xs : List α), (∀ x ∈ xs, ∃ s es e2 e3, pat (a x) e = some (s :: es) ∧ tt (s :: es) = .ok (p x) e2 ∧ (p x = true → vD el e2 = .ok (b x) e3 ∧ wipeE e3 vs = e) ∧ (p x = false → wipeE e2 vs = e)) →
    lcL pat tt el vs (xs.map a) e = .ok ((xs.filter p).map b) e
  | [], _ => rfl
  | x :: xs, h => by
    obtain ⟨s, es, e2, e3, h1, h2, h3, h4⟩ := h x List.mem_cons_self
    have ih := lcL_filter (pat := pat) (tt := tt) (el := el) (vs := vs) (e := e) a p b xs fun y hy => h y (List.mem_cons_of_mem _ hy)
    cases hp : p x with
    | true =>
      rw [hp] at h2
      obtain ⟨h5, h6⟩ := h3 hp
      rw [List.filter_cons_of_pos (by simpa using hp), List.map_cons, List.map_cons]
      exact lcL_yes h1 h2 h5 (by rw [h6]; exact ih)
    | false =>
      rw [hp] at h2
      rw [List.filter_cons_of_neg (by simp [hp]), List.map_cons]
      exact lcL_no h1 h2 (by rw [h4 hp]; exact ih)
theorem sp_pat (p : Rat × Rat) (g : D → En → Option En) (h : D → En → Option En) (e : En) : pTup (pCons g (pCons h pNil)) (sp p) e = (g (fr p.1) e).bind fun e1 => (h (fr p.2) e1).bind (pNil []) := rfl
/-- sizes of spans -/
structure Spans (N M : Nat) (ss : List (Rat × Rat)) : Prop where
  all : ∀ p ∈ ss, Span N M p
  len : ss.length ≤ 100
  n0 : 0 < N
  n1 : N < 2 ^ 200
  m1 : M < 2 ^ 200
theorem Spans.mono {N M N' M' : Nat} (h : N < 2 ^ 200) : N < 2 ^ 4000 := up h (by decide)
def tot (ss : List (Rat × Rat)) : Rat := sumQ (ss.map (·.2))
theorem Spans.fx2 {N M : Nat} {ss : List (Rat × Rat)} (S : Spans N M ss) : ∀ q ∈ ss.map (·.2), Fx N M q := fun q hq => by
  obtain ⟨p, hp, rfl⟩ :=
                                                                                                                List.mem_map.mp hq
  exact (S.all p hp).f2
theorem Spans.fxTot {N M : Nat} {ss : List (Rat × Rat)} (S : Spans N M ss) : Fx N (100 * M) (tot ss) := by
  have h := Fx.sum S.fx2
  rw [List.length_map] at h
  exact h.mono (Nat.mul_le_mul_right _ S.len)
theorem small300 {M : Nat} (h : M < 2 ^ 200) (k : Nat) (hk : k ≤ 1000) : k * M < 2 ^ 300 := by
  have : k * M ≤ 1000 * M := Nat.mul_le_mul_right _ hk
  have h2 : 1000 * M < 1000 * 2 ^ 200 := Nat.mul_lt_mul_of_pos_left h (by decide)
  have h3 : 1000 * 2 ^ 200 < 2 ^ 300 := by decide
  omega
theorem Spans.nn {N M : Nat} {ss : List (Rat × Rat)} (S : Spans N M ss) : 0 < N ∧ N < 2 ^ 4000 := ⟨S.n0, up S.n1 (by decide)⟩
/-- whatever is at most a thousand times as great is small enough -/
theorem Spans.bq {N M : Nat} {ss : List (Rat × Rat)} (S : Spans N M ss) {k : Nat} (hk : k ≤ 1000) {q : Rat} (h : Fx N (k * M) q) : Bq q := h.bq S.nn (up (small300 S.m1 k hk) (by decide))
theorem Spans.one {N M : Nat} {ss : List (Rat × Rat)} (S : Spans N M ss) {q : Rat} (h : Fx N M q) : Bq q := S.bq (k := 1) (by decide) (by rw [Nat.one_mul]; exact h)
theorem added_tops {N M : Nat} {ss : List (Rat × Rat)} (S : Spans N M ss) : m_added [.list (ss.map fun p => fr p.2)] = some (.ret (.val (fr (tot ss)))) := by
  have h := m_added_list S.nn S.fx2 (up (small300 S.m1 (ss.map (·.2)).length (by rw [List.length_map]; have := S.len; omega)) (by decide)) (up S.m1 (by decide))
  rw [List.map_map] at h
  exact h
/-! ### reach_of -/
theorem lc_tops (ss : List (Rat × Rat)) (s0 s1 s2 : Sl) : lcL (pTup (pCons (pNm 3) (pCons (pNm 4) (pNil)))) bYes (vVar 4) [3, 4] (ss.map sp) [s0, s1, s2, .no, .no] = .ok (ss.map fun p => fr p.2) [s0, s1, s2, .no, .no] :=
  lcL_map sp _ ss fun p _ => ⟨s0, [s1, s2, .val (fr p.1), .val (fr p.2)], [s0, s1, s2, .val (fr p.1), .val (fr p.2)], rfl, by simp, rfl⟩
def leftOf (ss : List (Rat × Rat)) (p : Rat × Rat) : Rat := p.1 - (tot ss - p.2)
theorem Spans.left {N M : Nat} {ss : List (Rat × Rat)} (S : Spans N M ss) {p : Rat × Rat} (hp : p ∈ ss) : Fx N (101 * M) (tot ss - p.2) ∧ Fx N (102 * M) (leftOf ss p) := by
  have h := S.all p hp
  have h1 : Fx N (101 * M) (tot ss - p.2) := (S.fxTot.sub h.f2).mono (by omega)
  exact ⟨h1, (h.f1.sub h1).mono (by omega)⟩
theorem lc_left {N M : Nat} {ss : List (Rat × Rat)} (S : Spans N M ss) (s0 s2 : Sl) : lcL (pTup (pCons (pNm 3) (pCons (pNm 4) (pNil)))) bYes (vCall m_less (vCons (vVar 3) (vCons (vCall m_less (vCons (vVar 1) (vCons (vVar 4) (vNil)))) (vNil)))) [3, 4] (ss.map sp) [s0, .val (fr (tot ss)), s2, .no, .no] = .ok (ss.map fun p => fr (leftOf ss p)) [s0, .val (fr (tot ss)), s2, .no, .no] :=
  lcL_map sp _ ss fun p hp => by
    obtain ⟨h1, h2⟩ := S.left hp
    have e1 := m_less_eq (S.bq (by decide) S.fxTot) (S.one (S.all p hp).f2)
    have e2 := m_less_eq (S.one (S.all p hp).f1) (S.bq (by decide) h1)
    exact ⟨s0, [.val (fr (tot ss)), s2, .val (fr p.1), .val (fr p.2)], [s0, .val (fr (tot ss)), s2, .val (fr p.1), .val (fr p.2)], rfl, by simp [e1, e2, leftOf], rfl⟩
/-- the greatest of a list, from a first one on -/
def maxQ (q : Rat) : List Rat → Rat
  | [] => q
  | r :: rs => maxQ (if q < r then r else q) rs
theorem greatest_loop (b : MS) (hb : b = sSet 1 (vIf (vB (vOp (dCmp fun i j => decide (j < i)) (vCall m_compared (vCons (vVar 2) (vCons (vVar 1) (vNil)))) (vC (.int 0)))) (vVar 2) (vVar 1))) :
    ∀ (rs : List Rat) (q : Rat) (s0 s2 : Sl), Bq q → (∀ r ∈ rs, Bq r) → ∃ t2, forL (pNm 2) b (rs.map fr) [s0, .val (fr q), s2] = .ok .nx [s0, .val (fr (maxQ q rs)), t2]
  | [], q, s0, s2, _, _ => ⟨s2, rfl⟩
  | r :: rs, q, s0, s2, hq, hr => by
    have h1 := hr r List.mem_cons_self
    have hm : Bq (if q < r then r else q) := by split <;> assumption
    obtain ⟨t2, h⟩ := greatest_loop b hb rs (if q < r then r else q) s0 (.val (fr r)) hm fun x hx => hr x (List.mem_cons_of_mem _ hx)
    refine ⟨t2, ?_⟩
    rw [List.map_cons, forL_nx (e1 := [s0, .val (fr q), .val (fr r)]) (e2 := [s0, .val (fr (if q < r then r else q)), .val (fr r)]) rfl ?_, h, maxQ]
    have hc := m_compared_eq h1 hq
    rw [hb]
    by_cases hlt : q < r
    · have : 0 < cmpI r q := (cmpI_gt r q).mpr hlt
      simp [hc, hlt, this]
    · have : ¬ 0 < cmpI r q := fun z => hlt ((cmpI_gt r q).mp z)
      simp [hc, hlt, this]
theorem m_greatest_eq {q : Rat} {rs : List Rat} (hq : Bq q) (hr : ∀ r ∈ rs, Bq r) : m_greatest_of [.list (fr q :: rs.map fr)] = some (.ret (.val (fr (maxQ q rs)))) := by
  obtain ⟨t2, h⟩ := greatest_loop _ rfl rs q (.val (.list (fr q :: rs.map fr))) .no hq hr
  have hc : cutD (fr q :: rs.map fr) (some 1) none = rs.map fr := by
    unfold cutD
    rw [show HT.sIx (fr q :: rs.map fr).length 0 (some 1) = min 1 (fr q :: rs.map fr).length from HT.sIx_nat _ 0 1, HT.sIx_none]
    simp
    exact List.take_of_length_le
                                                                                                                  (by simp)
  simp only [m_greatest_of, runM, g_greatest_of, List.length_cons, List.length_nil, if_true]
  simp [startE, hc, h]
def low (ss : List (Rat × Rat)) : Rat := maxQ 0 (ss.map (leftOf ss))
theorem m_reach_eq {N M : Nat} {ss : List (Rat × Rat)} (S : Spans N M ss) : m_reach_of [.tuple (ss.map sp)] = some (.ret (.val (.tuple [fr (low ss), fr (tot ss)]))) := by
  have e0 : PyData.tuple [.int 0, .int 1] = fr 0 := rfl
  have hl : ss.length ≤ 1000000 := by have := S.len; omega
  have hl2 : ss.length + 1 ≤ 1000000 := by have := S.len; omega
  have hg := m_greatest_eq (q := 0) (rs := ss.map (leftOf ss)) ⟨by decide, by decide⟩ (fun r hr => by
    obtain ⟨p, hp, rfl⟩ := List.mem_map.mp hr
    exact S.bq (by decide) (S.left hp).2)
  rw [List.map_map] at hg
  have hg : m_greatest_of [.list (fr 0 :: ss.map fun p => fr (leftOf ss p))] = some (.ret (.val (fr (low ss)))) := hg
  have h1 := lc_tops ss (.val (.tuple (ss.map sp))) .no .no
  have h2 := lc_left S (.val (.tuple (ss.map sp))) .no
  have h3 := added_tops S
  simp only [m_reach_of, runM, g_reach_of, List.length_cons, List.length_nil, if_true]
  simp [startE, noOwn, wipeE, backE, lim_is, hl, hl2, h1, h2, h3, e0, hg]
/-! ### the law's own reach -/
theorem highest_loop (b : MS) (hb : b = sSet 1 (vIf (vB (vCall m__law_below (vCons (vVar 1) (vCons (vVar 2) (vNil))))) (vVar 2) (vVar 1))) :
    ∀ (rs : List Rat) (q : Rat) (s0 s2 : Sl), Bq q → (∀ r ∈ rs, Bq r) → ∃ t2, forL (pNm 2) b (rs.map fr) [s0, .val (fr q), s2] = .ok .nx [s0, .val (fr (maxQ q rs)), t2]
  | [], q, s0, s2, _, _ => ⟨s2, rfl⟩
  | r :: rs, q, s0, s2, hq, hr => by
    have h1 := hr r List.mem_cons_self
    have hm : Bq (if q < r then r else q) := by split <;> assumption
    obtain ⟨t2, h⟩ := highest_loop b hb rs (if q < r then r else q) s0 (.val (fr r)) hm fun x hx => hr x (List.mem_cons_of_mem _ hx)
    refine ⟨t2, ?_⟩
    rw [List.map_cons, forL_nx (e1 := [s0, .val (fr q), .val (fr r)]) (e2 := [s0, .val (fr (if q < r then r else q)), .val (fr r)]) rfl ?_, h, maxQ]
    have hc := m_below_eq hq h1
    rw [hb]
    by_cases hlt : q < r
    · simp [hc, hlt]
    · simp [hc, hlt]
theorem m_highest_eq {q : Rat} {rs : List Rat} (hq : Bq q) (hr : ∀ r ∈ rs, Bq r) : m__law_highest [.list (fr q :: rs.map fr)] = some (.ret (.val (fr (maxQ q rs)))) := by
  obtain ⟨t2, h⟩ := highest_loop _ rfl (q :: rs) q (.val (.list (fr q :: rs.map fr))) .no hq (fun r h => (List.mem_cons.mp h).elim (fun e => e ▸ hq) (hr r))
  have e : maxQ q (q :: rs) = maxQ q rs := by rw [maxQ, if_neg Rat.lt_irrefl]
  rw [e, List.map_cons] at h
  simp only [m__law_highest, runM, g__law_highest, List.length_cons, List.length_nil, if_true]
  simp [startE, h]
theorem lc_second (ss : List (Rat × Rat)) (s0 s1 s2 s3 : Sl) : lcL (pNm 4) bYes (vIxv 4 (vC (.int 1))) [4] (ss.map sp) [s0, s1, s2, s3, .no] = .ok (ss.map fun p => fr p.2) [s0, s1, s2, s3, .no] :=
  lcL_map sp _ ss fun p _ => ⟨s0, [s1, s2, s3, .val (sp p)], [s0, s1, s2, s3, .val (sp p)], rfl, by simp, rfl⟩
theorem plus_tops {N M : Nat} {ss : List (Rat × Rat)} (S : Spans N M ss) (hlen : ss.length ≤ 20) : m__law_plus [.list (ss.map fun p => fr p.2)] = some (.ret (.val (fr (tot ss)))) := by
  have hp : N ^ ss.length < 2 ^ 4000 := by
    have h1 : N ^ ss.length ≤ (2 ^ 200) ^ ss.length := Nat.pow_le_pow_left (Nat.le_of_lt S.n1) _
    rw [← Nat.pow_mul] at h1
    by_cases h0 : ss.length = 0
    · rw [h0, Nat.pow_zero]; exact Nat.one_lt_two_pow (by decide)
    · have h2 : N ^ ss.length < (2 ^ 200) ^ ss.length := Nat.pow_lt_pow_left S.n1 h0
      rw [← Nat.pow_mul] at h2
      exact up h2 (by omega)
  have hm : ss.length * M < 2 ^ 300 := small300 S.m1 _ (by omega)
  have h := m_plus_of (N := N) (M := M) S.n0 (qs := ss.map (·.2)) (.inl rfl) S.fx2 (by rw [List.length_map]; exact up (m := 8000) (mul_lt hm hp) (by decide)) (by rw [List.length_map]; exact up hp (by decide)) (up S.m1 (by decide))
  rw [List.map_map] at h
  exact h
/-- numbered items -/
inductive Enu {α : Type} (a : α → D) : List D → List α → Prop
  | nil : Enu a [] []
  | cons {z : Int} {x : α} {ds : List D} {xs : List α} : Enu a ds xs → Enu a (.tuple [.int z, a x] :: ds) (x :: xs)
theorem enu_of {α : Type} (a : α → D) : ∀ (xs : List α) (g : Nat → Int), Enu a ((xs.map a).mapIdx fun i d => .tuple [.int (g i), d]) xs
  | [], g => by rw [List.map_nil, List.mapIdx_nil]; exact .nil
  | x :: xs, g => by
    rw [List.map_cons, List.mapIdx_cons]
    exact .cons (enu_of a xs fun i => g (i + 1))
theorem reach_loop {N M : Nat} {ss : List (Rat × Rat)} (S : Spans N M ss) (b : MS) (hb : b = sApp 1 (vCall m__law_minus (vCons (vIxv 4 (vC (.int 0))) (vCons (vCall m__law_minus (vCons (vVar 2) (vCons (vIxv 4 (vC (.int 1))) (vNil)))) (vNil))))) :
    ∀ {ds : List D} {ps : List (Rat × Rat)} (h : Enu sp ds ps) (ls : List D) (s0 s3 s4 : Sl), (∀ p ∈ ps, p ∈ ss) → ls.length + ps.length ≤ 1000 → ∃ t3 t4, forL (pTup (pCons (pNm 3) (pCons (pNm 4) (pNil)))) b ds [s0, .own false ls, .val (fr (tot ss)), s3, s4] = .ok .nx [s0, .own false (ls ++ ps.map fun p => fr (leftOf ss p)), .val (fr (tot ss)), t3, t4]
  | _, _, .nil, ls, s0, s3, s4, _, _ => ⟨s3, s4, by rw [List.map_nil, List.append_nil]; rfl⟩
  | _, _, .cons (z := z) (x := p) (ds := ds) (xs := ps) h, ls, s0, s3, s4, hp, hl => by
    have hm := hp p List.mem_cons_self
    rw [List.length_cons] at hl
    obtain ⟨t3, t4, ih⟩ := reach_loop S b hb h (ls ++ [fr (leftOf ss p)]) s0 (.val (.int z)) (.val (sp p)) (fun q hq => hp q (List.mem_cons_of_mem _ hq)) (by rw [List.length_append, List.length_singleton]; omega)
    have e1 := m_minus_eq (S.bq (by decide) S.fxTot) (S.one (S.all p hm).f2)
    have e2 := m_minus_eq (S.one (S.all p hm).f1) (S.bq (by decide) (S.left hm).1)
    have hlen : ls.length < 1000000 := by omega
    refine ⟨t3, t4, ?_⟩
    rw [forL_nx (e1 := [s0, .own false ls, .val (fr (tot ss)), .val (.int z), .val (sp p)]) (e2 := [s0, .own false (ls ++ [fr (leftOf ss p)]), .val (fr (tot ss)), .val (.int z), .val (sp p)]) rfl ?_, ih, List.append_assoc]
    · rfl
    · rw [hb]
      simp [e1, e2, hlen, lim_is, leftOf]
theorem m_law_reach_eq {N M : Nat} {ss : List (Rat × Rat)} (S : Spans N M ss) (hlen : ss.length ≤ 20) : m__law_reach [.tuple (ss.map sp)] = some (.ret (.val (.tuple [fr (low ss), fr (tot ss)]))) := by
  have e0 : PyData.tuple [.int 0, .int 1] = fr 0 := rfl
  have hl : ss.length ≤ 1000000 := by omega
  have h1 := lc_second ss (.val (.tuple (ss.map sp))) .no .no .no
  have h2 := plus_tops S hlen
  obtain ⟨t3, t4, h3⟩ := reach_loop S _ rfl (enu_of sp ss fun i => (i : Int)) [fr 0] (.val (.tuple (ss.map sp))) .no .no (fun _ h => h) (by rw [List.length_singleton]; omega)
  have h3' : forL _ _ (enumD (ss.map sp)) _ = _ := h3
  have hg := m_highest_eq (q := 0) (rs := ss.map (leftOf ss)) ⟨by decide, by decide⟩ (fun r hr => by
    obtain ⟨p, hp, rfl⟩ := List.mem_map.mp hr
    exact S.bq (by decide) (S.left hp).2)
  rw [List.map_map] at hg
  have hg : m__law_highest [.list (fr 0 :: ss.map fun p => fr (leftOf ss p))] = some (.ret (.val (fr (low ss)))) := hg
  simp only [m__law_reach, runM, g__law_reach, List.length_cons, List.length_nil, if_true]
  simp [startE, noOwn, wipeE, backE, lim_is, hl, h1, h2, e0, h3', hg]
end Fr

namespace Fr
open PySem Mv Sh

/-! ### closing -/
structure Sz (N M : Nat) : Prop where
  n0 : 0 < N
  n1 : N < 2 ^ 200
  m1 : M < 2 ^ 220
theorem Spans.sz {N M : Nat} {ss : List (Rat × Rat)} (S : Spans N M ss) : Sz N M := ⟨S.n0, S.n1, up S.m1 (by decide)⟩
theorem Spans.sz2 {N M : Nat} {ss : List (Rat × Rat)} (S : Spans N M ss) : Sz N (101 * M) := ⟨S.n0, S.n1, by
  have h := mul_lt (a := 101) (n := 7) (by decide) S.m1
  exact up h (by decide)⟩
theorem Sz.nn {N M : Nat} (S : Sz N M) : 0 < N ∧ N < 2 ^ 4000 := ⟨S.n0, up S.n1 (by decide)⟩
theorem Sz.sm {N M : Nat} (S : Sz N M) (k : Nat) (hk : k ≤ 1000) : k * M < 2 ^ 300 := up (mul_lt (a := k) (n := 10) (by omega) S.m1) (by decide)
theorem Sz.bq {N M : Nat} (S : Sz N M) {k : Nat} (hk : k ≤ 1000) {q : Rat} (h : Fx N (k * M) q) : Bq q := h.bq S.nn (up (S.sm k hk) (by decide))
theorem fr2 : PyData.tuple [.int 2, .int 1] = fr 2 := rfl
theorem bq2 : Bq 2 := ⟨by decide, by decide⟩
theorem fx2 {N M : Nat} {q : Rat} (h : Fx N M q) : Fx N (2 * M) (2 * q) := by
  have : (2 : Rat) * q = q + q := by grind
  rw [this, Nat.two_mul]
  exact h.add h
theorem m_is_small_eq {N M : Nat} (S : Sz N M) {a b : Rat} (ha : Fx N (300 * M) a) (hb : Fx N (300 * M) b) : m_is_small [fr a, fr b] = some (.ret (.val (.bool (decide (2 * a ≤ b))))) := by
  have h1 := m_times_eq bq2 (S.bq (by decide) ha)
  have h2 : Bq (2 * a) := S.bq (k := 600) (by decide) ((fx2 ha).mono (by omega))
  have h3 := m_compared_eq h2 (S.bq (by decide) hb)
  have h4 := cmpI_le (2 * a) b
  simp [m_is_small, g_is_small, runM, startE, fr2, h1, h3, lim_is, h4]
@[simp] theorem all_bools (bs : List Bool) : dAll [.list (bs.map PyData.bool)] = some (.val (.bool (bs.all id))) := by simp [dAll]
def closesB (ss : List (Rat × Rat)) : Bool := ss.all fun p => decide (p.1 ≤ tot ss - p.2)
theorem lc_tops2 (ss : List (Rat × Rat)) (s0 s1 : Sl) : lcL (pTup (pCons (pNm 2) (pCons (pNm 3) (pNil)))) bYes (vVar 3) [2, 3] (ss.map sp) [s0, s1, .no, .no] = .ok (ss.map fun p => fr p.2) [s0, s1, .no, .no] :=
  lcL_map sp _ ss fun p _ => ⟨s0, [s1, .val (fr p.1), .val (fr p.2)], [s0, s1, .val (fr p.1), .val (fr p.2)], rfl, by simp, rfl⟩
theorem lc_closes {N M : Nat} {ss : List (Rat × Rat)} (S : Spans N M ss) (s0 : Sl) : lcL (pTup (pCons (pNm 2) (pCons (pNm 3) (pNil)))) bYes (vOp (dCmp fun i j => decide (i ≤ j)) (vCall m_compared (vCons (vVar 2) (vCons (vCall m_less (vCons (vVar 1) (vCons (vVar 3) (vNil)))) (vNil)))) (vC (.int 0))) [2, 3] (ss.map sp) [s0, .val (fr (tot ss)), .no, .no] =
    .ok (ss.map fun p => .bool (decide (p.1 ≤ tot ss - p.2))) [s0, .val (fr (tot ss)), .no, .no] :=
  lcL_map sp _ ss fun p hp => by
    have e1 := m_less_eq (S.bq (by decide) S.fxTot) (S.one (S.all p hp).f2)
    have e2 := m_compared_eq (S.one (S.all p hp).f1) (S.bq (by decide) (S.left hp).1)
    have e3 := cmpI_le p.1 (tot ss - p.2)
    exact ⟨s0, [.val (fr (tot ss)), .val (fr p.1), .val (fr p.2)], [s0, .val (fr (tot ss)), .val (fr p.1), .val (fr p.2)], rfl, by simp [e1, e2, e3], rfl⟩
theorem m_closes_eq {N M : Nat} {ss : List (Rat × Rat)} (S : Spans N M ss) : m_closes [.tuple (ss.map sp)] = some (.ret (.val (.bool (closesB ss)))) := by
  have hl : ss.length ≤ 1000000 := by have := S.len; omega
  have h1 := lc_tops2 ss (.val (.tuple (ss.map sp))) .no
  have h2 := lc_closes S (.val (.tuple (ss.map sp)))
  have h3 := added_tops S
  have h4 := all_bools (ss.map fun p => decide (p.1 ≤ tot ss - p.2))
  rw [List.map_map, List.all_map] at h4
  have h4 : dAll [.list (ss.map fun p => .bool (decide (p.1 ≤ tot ss - p.2)))] = some (.val (.bool (closesB ss))) := h4
  simp only [m_closes, runM, g_closes, List.length_cons, List.length_nil, if_true]
  simp [startE, noOwn, wipeE, backE, lim_is, hl, h1, h2, h3, h4]
/-- the heaps, as they are told -/
def heapsF (total : Rat) : List Rat → Rat → Int → List Int
  | [], _, _ => []
  | a :: as, h, k => if k = 0 ∧ total ≤ 2 * (h + a) then 1 :: heapsF total as (h + a) 2 else k :: heapsF total as (h + a) k
theorem m_added2 {N M : Nat} (hN : 0 < N ∧ N < 2 ^ 4000) {a b : Rat} (ha : Fx N M a) (hb : Fx N M b) (hM : 2 * M < 2 ^ 4000) : m_added [.list [fr a, fr b]] = some (.ret (.val (fr (a + b)))) := by
  have h := m_added_list hN (qs := [a, b]) (fun q hq => by
    simp only [List.mem_cons, List.not_mem_nil, or_false] at hq
    rcases hq with rfl | rfl <;> assumption) hM (by omega)
  have e : sumQ [a, b] = a + b := by simp only [sumQ, Rat.add_zero]
  rw [e] at h
  exact h
theorem heaps_loop {N M : Nat} (S : Sz N M) {total : Rat} (ht : Fx N (300 * M) total) (b : MS)
    (hb : b = sSeq (sSet 3 (vCall m_added (vCons (vLst (vCons (vVar 3) (vCons (vVar 5) (vNil)))) (vNil)))) (sIf (bAnd (vB (vOp dEq (vVar 4) (vC (.int 0)))) (vB (vOp (dCmp fun i j => decide (j ≤ i)) (vCall m_compared (vCons (vCall m_times (vCons (vTup (vCons (vC (.int 2)) (vCons (vC (.int 1)) (vNil)))) (vCons (vVar 3) (vNil)))) (vCons (vVar 1) (vNil)))) (vC (.int 0))))) (sSeq (sApp 2 (vC (.int 1))) (sSet 4 (vC (.int 2)))) (sApp 2 (vVar 4)))) :
    ∀ (qs : List Rat) (x : Rat) (A : Nat) (k : Int) (ls : List D) (s0 s5 : Sl), (∀ q ∈ qs, Fx N M q) → Fx N (A * M) x → A + qs.length ≤ 200 → ls.length + qs.length ≤ 1000 →
      ∃ t3 t4 t5, forL (pNm 5) b (qs.map fr) [s0, .val (fr total), .own false ls, .val (fr x), .val (.int k), s5] = .ok .nx [s0, .val (fr total), .own false (ls ++ (heapsF total qs x k).map PyData.int), t3, t4, t5]
  | [], x, A, k, ls, s0, s5, _, _, _, _ => ⟨_, _, _, by simp only [heapsF, List.map_nil, List.append_nil]; rfl⟩
  | q :: qs, x, A, k, ls, s0, s5, hq, hx, hA, hl => by
    have hq1 := hq q List.mem_cons_self
    rw [List.length_cons] at hA hl
    have hxa : Fx N ((A + 1) * M) (x + q) := (hx.add hq1).mono (Nat.le_of_eq (Nat.succ_mul A M).symm)
    have m1 : A * M ≤ 200 * M := Nat.mul_le_mul_right _ (by omega)
    have m2 : (A + 1) * M ≤ 300 * M := Nat.mul_le_mul_right _ (by omega)
    have e1 := m_added2 S.nn (hx.mono m1) (hq1.mono (show M ≤ 200 * M by omega)) (by rw [← Nat.mul_assoc]; exact up (S.sm 400 (by decide)) (by decide))
    have e2 := m_times_eq bq2 (S.bq (k := 300) (by decide) (hxa.mono m2))
    have hb2 : Bq (2 * (x + q)) := S.bq (k := 600) (by decide) ((fx2 (hxa.mono m2)).mono (by omega))
    have e3 := m_compared_eq hb2 (S.bq (by decide) ht)
    have e4 := cmpI_ge (2 * (x + q)) total
    have hlen : ls.length < 1000000 := by omega
    by_cases hc : k = 0 ∧ total ≤ 2 * (x + q)
    · obtain ⟨rfl, hc2⟩ := hc
      obtain ⟨t3, t4, t5, ih⟩ := heaps_loop S ht b hb qs (x + q) (A + 1) 2 (ls ++ [.int 1]) s0 (.val (fr q)) (fun r hr => hq r (List.mem_cons_of_mem _ hr)) hxa (by omega) (by rw [List.length_append, List.length_singleton]; omega)
      refine ⟨t3, t4, t5, ?_⟩
      rw [List.map_cons, forL_nx (e1 := [s0, .val (fr total), .own false ls, .val (fr x), .val (.int 0), .val (fr q)]) (e2 := [s0, .val (fr total), .own false (ls ++ [.int 1]), .val (fr (x + q)), .val (.int 2), .val (fr q)]) rfl ?_, ih, heapsF, if_pos ⟨rfl, hc2⟩, List.append_assoc]
      · rfl
      · rw [hb]
        simp [e1, fr2, e2, e3, e4, hc2, hlen, lim_is]
    · obtain ⟨t3, t4, t5, ih⟩ := heaps_loop S ht b hb qs (x + q) (A + 1) k (ls ++ [.int k]) s0 (.val (fr q)) (fun r hr => hq r (List.mem_cons_of_mem _ hr)) hxa (by omega) (by rw [List.length_append, List.length_singleton]; omega)
      refine ⟨t3, t4, t5, ?_⟩
      rw [List.map_cons, forL_nx (e1 := [s0, .val (fr total), .own false ls, .val (fr x), .val (.int k), .val (fr q)]) (e2 := [s0, .val (fr total), .own false (ls ++ [.int k]), .val (fr (x + q)), .val (.int k), .val (fr q)]) rfl ?_, ih, heapsF, if_neg hc, List.append_assoc]
      · rfl
      · rw [hb]
        by_cases hk : k = 0
        · subst hk
          have hc2 : ¬ total ≤ 2 * (x + q) := fun z => hc ⟨rfl, z⟩
          simp [e1, fr2, e2, e3, e4, hc2, hlen, lim_is]
        · simp [e1, hk, hlen, lim_is]
theorem small_all {N M : Nat} (S : Sz N M) {total : Rat} (ht : Fx N (300 * M) total) (qs : List Rat) (hq : ∀ q ∈ qs, Fx N M q) (s0 s2 s3 s4 : Sl) : lcL (pNm 5) bYes (vCall m_is_small (vCons (vVar 5) (vCons (vVar 1) (vNil)))) [5] (qs.map fr) [s0, .val (fr total), s2, s3, s4, .no] = .ok (qs.map fun q => .bool (decide (2 * q ≤ total))) [s0, .val (fr total), s2, s3, s4, .no] :=
  lcL_map fr _ qs fun q h => by
    have e := m_is_small_eq S ((hq q h).mono (by omega)) ht
    exact ⟨s0, [.val (fr total), s2, s3, s4, .val (fr q)], [s0, .val (fr total), s2, s3, s4, .val (fr q)], rfl, by simp [e], rfl⟩
def smallB (total : Rat) (qs : List Rat) : Bool := qs.all fun q => decide (2 * q ≤ total)
theorem m_heaps_eq {N M : Nat} (S : Sz N M) {qs : List Rat} (hq : ∀ q ∈ qs, Fx N M q) (hl : qs.length ≤ 100) (hs : smallB (sumQ qs) qs = true) : m_heaps_of [.tuple (qs.map fr)] = some (.ret (.val (.tuple ((heapsF (sumQ qs) qs 0 0).map PyData.int)))) := by
  have ht : Fx N (300 * M) (sumQ qs) := (Fx.sum hq).mono (Nat.mul_le_mul_right _ (by omega))
  have h1 := m_added_tuple S.nn hq (up (S.sm qs.length (by omega)) (by decide)) (up S.m1 (by decide))
  have h2 := small_all S ht qs hq (.val (.tuple (qs.map fr))) .no .no .no
  have h3 := all_bools (qs.map fun q => decide (2 * q ≤ sumQ qs))
  rw [List.map_map, List.all_map] at h3
  have h3 : dAll [.list (qs.map fun q => .bool (decide (2 * q ≤ sumQ qs)))] = some (.val (.bool (smallB (sumQ qs) qs))) := h3
  obtain ⟨t3, t4, t5, h4⟩ := heaps_loop S ht _ rfl qs 0 0 0 [] (.val (.tuple (qs.map fr))) .no hq Fx.zero (by omega) (by simp; omega)
  have e0 : PyData.tuple [.int 0, .int 1] = fr 0 := rfl
  have hl2 : qs.length ≤ 1000000 := by omega
  simp only [m_heaps_of, runM, g_heaps_of, List.length_cons, List.length_nil, if_true]
  simp [startE, noOwn, wipeE, backE, lim_is, hl2, h1, h2, h3, hs, e0, h4, dTuple]
/-- the amounts that are told -/
def amt (T q : Rat) : Rat := if 2 * q ≤ T then q else T - q
def amts (ss : List (Rat × Rat)) : List Rat := ss.map fun p => amt (tot ss) p.2
theorem lc_tops6 (ss : List (Rat × Rat)) (s0 s1 s2 s3 s4 : Sl) : lcL (pTup (pCons (pNm 5) (pCons (pNm 6) (pNil)))) bYes (vVar 6) [5, 6] (ss.map sp) [s0, s1, s2, s3, s4, .no, .no] = .ok (ss.map fun p => fr p.2) [s0, s1, s2, s3, s4, .no, .no] :=
  lcL_map sp _ ss fun p _ => ⟨s0, [s1, s2, s3, s4, .val (fr p.1), .val (fr p.2)], [s0, s1, s2, s3, s4, .val (fr p.1), .val (fr p.2)], rfl, by simp, rfl⟩
theorem closing_loop {N M : Nat} {ss : List (Rat × Rat)} (S : Spans N M ss) (b : MS) (hb : b = sApp 3 (vIf (vB (vCall m_is_small (vCons (vVar 4) (vCons (vVar 2) (vNil))))) (vVar 4) (vCall m_less (vCons (vVar 2) (vCons (vVar 4) (vNil)))))) :
    ∀ (ps : List (Rat × Rat)) (ls : List D) (s0 s1 s4 s5 s6 : Sl), (∀ p ∈ ps, p ∈ ss) → ls.length + ps.length ≤ 1000 → ∃ t4, forL (pNm 4) b (ps.map fun p => fr p.2) [s0, s1, .val (fr (tot ss)), .own false ls, s4, s5, s6] = .ok .nx [s0, s1, .val (fr (tot ss)), .own false (ls ++ ps.map fun p => fr (amt (tot ss) p.2)), t4, s5, s6]
  | [], ls, s0, s1, s4, s5, s6, _, _ => ⟨s4, by simp only [List.map_nil, List.append_nil]; rfl⟩
  | p :: ps, ls, s0, s1, s4, s5, s6, hp, hl => by
    have hm := hp p List.mem_cons_self
    rw [List.length_cons] at hl
    obtain ⟨t4, ih⟩ := closing_loop S b hb ps (ls ++ [fr (amt (tot ss) p.2)]) s0 s1 (.val (fr p.2)) s5 s6 (fun q hq => hp q (List.mem_cons_of_mem _ hq)) (by rw [List.length_append, List.length_singleton]; omega)
    have e1 := m_is_small_eq S.sz ((S.all p hm).f2.mono (by omega)) (S.fxTot.mono (by omega))
    have e2 := m_less_eq (S.bq (by decide) S.fxTot) (S.one (S.all p hm).f2)
    have hlen : ls.length < 1000000 := by omega
    refine ⟨t4, ?_⟩
    rw [List.map_cons, forL_nx (e1 := [s0, s1, .val (fr (tot ss)), .own false ls, .val (fr p.2), s5, s6]) (e2 := [s0, s1, .val (fr (tot ss)), .own false (ls ++ [fr (amt (tot ss) p.2)]), .val (fr p.2), s5, s6]) rfl ?_, ih, List.append_assoc]
    · rfl
    · rw [hb]
      by_cases h : 2 * p.2 ≤ tot ss
      · simp [e1, h, hlen, lim_is, amt]
      · simp [e1, e2, h, hlen, lim_is, amt]
theorem Spans.amts {N M : Nat} {ss : List (Rat × Rat)} (S : Spans N M ss) : ∀ q ∈ Fr.amts ss, Fx N (101 * M) q := fun q hq => by
  obtain ⟨p, hp, rfl⟩ :=
                                                                                                                List.mem_map.mp hq
  unfold amt
  split
  · exact (S.all p hp).f2.mono (by omega)
  · exact (S.left hp).1
theorem m_closing_no {N M : Nat} {ss : List (Rat × Rat)} (S : Spans N M ss) (hc : closesB ss = false) : m_closing [.tuple (ss.map sp)] = some (.ret (.val .none)) := by
  have h1 := m_closes_eq S
  rw [hc] at h1
  simp [m_closing, g_closing, runM, startE, h1]
theorem m_closing_yes {N M : Nat} {ss : List (Rat × Rat)} (S : Spans N M ss) (hc : closesB ss = true) (hs : smallB (sumQ (amts ss)) (amts ss) = true) :
    m_closing [.tuple (ss.map sp)] = some (.ret (.val (.tuple [.tuple ((amts ss).map fr), .tuple ((heapsF (sumQ (amts ss)) (amts ss) 0 0).map PyData.int)]))) := by
  have h1 := m_closes_eq S
  rw [hc] at h1
  have h2 := lc_tops6 ss (.val (.tuple (ss.map sp))) .no .no .no .no
  have h3 := added_tops S
  obtain ⟨t4, h4⟩ := closing_loop S _ rfl ss [] (.val (.tuple (ss.map sp))) (.val (.list (ss.map fun p => fr p.2))) .no .no .no (fun _ h => h) (by simp; have := S.len; omega)
  have h5 := m_heaps_eq S.sz2 S.amts (by unfold amts; rw [List.length_map]; exact S.len) hs
  have hl : ss.length ≤ 1000000 := by have := S.len; omega
  have e5 : (amts ss).map fr = ss.map fun p => fr (amt (tot ss) p.2) := by unfold amts; rw [List.map_map]; rfl
  rw [e5] at h5 ⊢
  simp only [m_closing, runM, g_closing, List.length_cons, List.length_nil, if_true]
  simp [startE, noOwn, wipeE, backE, lim_is, hl, h1, h2, h3, h4, h5, dTuple]
end Fr

namespace Fr
open PySem Mv Sh

/-! ### the mathematics of closing -/
theorem sumQ_app : ∀ (xs ys : List Rat), sumQ (xs ++ ys) = sumQ xs + sumQ ys
  | [], ys => by rw [List.nil_append, sumQ, Rat.zero_add]
  | x :: xs, ys => by rw [List.cons_append, sumQ, sumQ, sumQ_app xs ys, Rat.add_assoc]
theorem sumQ_nn : ∀ {xs : List Rat}, (∀ x ∈ xs, 0 ≤ x) → 0 ≤ sumQ xs
  | [], _ => Rat.le_refl
  | x :: xs, h => by
    have h1 := h x List.mem_cons_self
    have h2 := sumQ_nn fun y hy => h y (List.mem_cons_of_mem _ hy)
    rw [sumQ]
    grind
theorem sumQ_ge : ∀ {xs : List Rat}, (∀ x ∈ xs, 0 ≤ x) → ∀ x ∈ xs, x ≤ sumQ xs
  | y :: xs, h, x, hx => by
    have h1 := h y List.mem_cons_self
    have h2 := sumQ_nn fun z hz => h z (List.mem_cons_of_mem _ hz)
    rw [sumQ]
    rcases List.mem_cons.mp hx with
                                                                                                                  rfl | hx
    · grind
    · have := sumQ_ge (fun z hz => h z (List.mem_cons_of_mem _ hz)) x hx
      grind
theorem Span.g0 {N M : Nat} {p : Rat × Rat} (h : Span N M p) : 0 ≤ p.2 := Rat.le_trans h.lo h.le
theorem closes_in {N M : Nat} {ss : List (Rat × Rat)} (S : Spans N M ss) (hc : closesB ss = true) {p : Rat × Rat} (hp : p ∈ ss) : p.1 ≤ amt (tot ss) p.2 ∧ amt (tot ss) p.2 ≤ p.2 := by
  have h := of_decide_eq_true (List.all_eq_true.mp hc p hp)
  have h2 := (S.all p hp).le
  unfold amt
  split <;> grind
theorem closes_small {N M : Nat} {ss : List (Rat × Rat)} (S : Spans N M ss) : smallB (sumQ (amts ss)) (amts ss) = true := by
  have nn : ∀ q ∈ ss.map (·.2), 0 ≤ q := fun q hq => by
    obtain ⟨p, hp, rfl⟩ :=
                                                                                                                  List.mem_map.mp hq
    exact (S.all p hp).g0
  by_cases hbig : ∃ p ∈ ss, ¬ 2 * p.2 ≤ tot ss
  · obtain ⟨p, hp, hb⟩ := hbig
    obtain ⟨A, B, rfl⟩ := List.append_of_mem hp
    have eT : tot (A ++ p :: B) = sumQ (A.map (·.2)) + (p.2 + sumQ (B.map (·.2))) := by
      unfold tot
      rw [List.map_append, List.map_cons, sumQ_app, sumQ]
    have nA : ∀ q ∈ A.map (·.2), 0 ≤ q := fun q hq => nn q (by rw [List.map_append]; exact List.mem_append_left _ hq)
    have nB : ∀ q ∈ B.map (·.2), 0 ≤ q := fun q hq => nn q (by rw [List.map_append, List.map_cons]; exact List.mem_append_right _ (List.mem_cons_of_mem _ hq))
    have zA := sumQ_nn nA
    have zB := sumQ_nn nB
    generalize hT : tot (A ++ p :: B) = T at *
    have oA : ∀ q ∈ A, 2 * q.2 ≤ T ∧ q.2 ≤ T - p.2 := fun q hq => by
      have := sumQ_ge nA q.2 (List.mem_map_of_mem hq)
      constructor <;> grind
    have oB : ∀ q ∈ B, 2 * q.2 ≤ T ∧ q.2 ≤ T - p.2 := fun q hq => by
      have := sumQ_ge nB q.2 (List.mem_map_of_mem hq)
      constructor <;> grind
    have ea : amts (A ++ p :: B) = A.map (·.2) ++ (T - p.2) :: B.map (·.2) := by
      unfold amts
      rw [hT, List.map_append, List.map_cons]
      congr 1
      · exact List.map_congr_left fun q hq => by unfold amt; rw [if_pos (oA q hq).1]
      · congr 1
        · unfold amt; rw [if_neg hb]
        · exact List.map_congr_left fun q hq => by unfold amt; rw [if_pos (oB q hq).1]
    have es : sumQ (amts (A ++ p :: B)) = (T - p.2) + (T - p.2) := by
      rw [ea, sumQ_app, sumQ]
      grind
    unfold smallB
    rw [es, ea]
    refine List.all_eq_true.mpr fun q hq => decide_eq_true ?_
    rcases List.mem_append.mp hq with
                                                                                                                  hq | hq
    · obtain ⟨r, hr, rfl⟩ := List.mem_map.mp hq
      have := (oA r hr).2
      grind
    · rcases List.mem_cons.mp hq with
                                                                                                                    rfl | hq
      · grind
      · obtain ⟨r, hr, rfl⟩ := List.mem_map.mp hq
        have := (oB r hr).2
        grind
  · have hall : ∀ p ∈ ss, 2 * p.2 ≤ tot ss := fun p hp => Classical.byContradiction fun h => hbig ⟨p, hp, h⟩
    have ea : amts ss = ss.map (·.2) := by
      unfold amts
      exact List.map_congr_left fun q hq => by unfold amt; rw [if_pos (hall q hq)]
    unfold smallB
    rw [ea]
    refine List.all_eq_true.mpr fun q hq => decide_eq_true ?_
    obtain ⟨r, hr, rfl⟩ := List.mem_map.mp hq
    exact hall r hr
/-- the sum of the amounts of one heap -/
def selQ (w : Int) (qs : List Rat) (hs : List Int) : Rat := sumQ (((qs.zip hs).filter fun x => decide (x.2 = w)).map (·.1))
theorem selQ_cons (w : Int) (q : Rat) (qs : List Rat) (h : Int) (hs : List Int) : selQ w (q :: qs) (h :: hs) = (if h = w then q else 0) + selQ w qs hs := by
  unfold selQ
  rw [List.zip_cons_cons]
  by_cases e : h = w
  · rw [List.filter_cons_of_pos (by simpa using e), List.map_cons, sumQ, if_pos e]
  · rw [List.filter_cons_of_neg (by simpa using e), if_neg e, Rat.zero_add]
theorem selQ_nil (w : Int) (hs : List Int) : selQ w [] hs = 0 := rfl
theorem heaps_len (T : Rat) : ∀ (qs : List Rat) (h : Rat) (k : Int), (heapsF T qs h k).length = qs.length
  | [], _, _ => rfl
  | q :: qs, h, k => by
    rw [heapsF]
    split <;> rw [List.length_cons, List.length_cons, heaps_len T qs]
theorem heaps_two (T : Rat) : ∀ (qs : List Rat) (h : Rat), selQ 0 qs (heapsF T qs h 2) = 0 ∧ selQ 1 qs (heapsF T qs h 2) = 0 ∧ selQ 2 qs (heapsF T qs h 2) = sumQ qs ∧ ∀ x ∈ heapsF T qs h 2, x = 0 ∨ x = 1 ∨ x = 2
  | [], h => ⟨rfl, rfl, rfl, fun x hx => (List.not_mem_nil hx).elim⟩
  | q :: qs, h => by
    obtain ⟨h1, h2, h3, h4⟩ := heaps_two T qs (h + q)
    have e : heapsF T (q :: qs) h 2 = 2 :: heapsF T qs (h + q) 2 := by rw [heapsF, if_neg (fun z => absurd z.1 (by decide))]
    rw [e, selQ_cons, selQ_cons, selQ_cons, h1, h2, h3]
    refine ⟨by rw [if_neg (by decide), Rat.add_zero], by rw [if_neg (by decide), Rat.add_zero], by rw [if_pos rfl, sumQ], fun x hx => ?_⟩
    rcases List.mem_cons.mp hx with
                                                                                                                  rfl | hx
    · exact .inr (.inr rfl)
    · exact h4 x hx
theorem heaps_right {T : Rat} (hT : 0 ≤ T) : ∀ (qs : List Rat) (h : Rat), (∀ q ∈ qs, 2 * q ≤ T) → 2 * h ≤ T → h + sumQ qs = T →
    2 * (h + selQ 0 qs (heapsF T qs h 0)) ≤ T ∧ (2 * selQ 1 qs (heapsF T qs h 0) ≤ T ∨ qs = []) ∧ (2 * selQ 2 qs (heapsF T qs h 0) ≤ T ∨ qs = []) ∧
      selQ 0 qs (heapsF T qs h 0) + selQ 1 qs (heapsF T qs h 0) + selQ 2 qs (heapsF T qs h 0) = sumQ qs ∧ ∀ x ∈ heapsF T qs h 0, x = 0 ∨ x = 1 ∨ x = 2
  | [], h, _, h2, _ => ⟨by rw [selQ_nil, Rat.add_zero]; exact h2, .inr rfl, .inr rfl, by rw [selQ_nil, selQ_nil, selQ_nil, sumQ, Rat.add_zero, Rat.add_zero], fun x hx => (List.not_mem_nil hx).elim⟩
  | q :: qs, h, hq, h2, h3 => by
    rw [sumQ] at h3
    have hq1 := hq q List.mem_cons_self
    by_cases hc : T ≤ 2 * (h + q)
    · obtain ⟨g1, g2, g3, g4⟩ := heaps_two T qs (h + q)
      have e : heapsF T (q :: qs) h 0 = 1 :: heapsF T qs (h + q) 2 := by rw [heapsF, if_pos ⟨rfl, hc⟩]
      rw [e, selQ_cons, selQ_cons, selQ_cons, g1, g2, g3, if_neg (by decide), if_pos rfl, if_neg (by decide), sumQ]
      refine ⟨by grind, .inl (by grind), .inl (by grind), by grind, fun x hx => ?_⟩
      rcases List.mem_cons.mp hx with
                                                                                                                    rfl | hx
      · exact .inr (.inl rfl)
      · exact g4 x hx
    · obtain ⟨g1, g2, g3, g4, g5⟩ := heaps_right hT qs (h + q) (fun r hr => hq r (List.mem_cons_of_mem _ hr)) (by grind) (by grind)
      have e : heapsF T (q :: qs) h 0 = 0 :: heapsF T qs (h + q) 0 := by rw [heapsF, if_neg (fun z => hc z.2)]
      have ne : qs ≠ [] := by
        rintro rfl
        rw [sumQ, Rat.add_zero] at h3
        clear g1 g2 g3 g4 g5 e hq
        grind
      rw [e, selQ_cons, selQ_cons, selQ_cons, if_pos rfl, if_neg (by decide), if_neg (by decide), sumQ]
      refine ⟨by grind, .inl ?_, .inl ?_, by grind, fun x hx => ?_⟩
      · rcases g2 with g2 | g2
        · grind
        · exact absurd g2 ne
      · rcases g3 with g3 | g3
        · grind
        · exact absurd g3 ne
      · rcases List.mem_cons.mp hx with rfl | hx
        · exact .inl rfl
        · exact g5 x hx
end Fr

namespace Fr
open PySem Mv Sh

/-! ### the law's own looks -/
theorem kit_ii : L2.kitB "int" "int" = some true := by decide +kernel
theorem kit_ib : L2.kitB "int" "bool" = some false := by decide +kernel
theorem kit_tt : L2.kitB "tuple" "tuple" = some true := by decide +kernel
@[simp] theorem isi_ii (z : Int) : isiD "int" (.int z) = some (.val (.bool true)) := by unfold isiD tyOf; rw [kit_ii]; rfl
@[simp] theorem isi_ib (z : Int) : isiD "bool" (.int z) = some (.val (.bool false)) := by unfold isiD tyOf; rw [kit_ib]; rfl
@[simp] theorem isi_tt (ds : List D) : isiD "tuple" (.tuple ds) = some (.val (.bool true)) := by unfold isiD tyOf; rw [kit_tt]; rfl
theorem m_integer_int (z : Int) : m__law_integer [.int z] = some (.ret (.val (.bool true))) := by
  simp [m__law_integer, g__law_integer, runM, startE]
@[simp] theorem isi_fr (q : Rat) : isiD "tuple" (fr q) = some (.val (.bool true)) := isi_tt _
@[simp] theorem len_fr (q : Rat) : dLen [fr q] = some (.val (.int 2)) := rfl
@[simp] theorem len_sp (p : Rat × Rat) : dLen [sp p] = some (.val (.int 2)) := rfl
theorem m_fraction_fr (q : Rat) : m__law_is_fraction [fr q] = some (.ret (.val (.bool true))) := by
  have h1 := m_shared_eq q.num q.den
  have h2 : Nat.gcd q.num.natAbs (q.den : Int).natAbs = 1 := q.reduced
  rw [h2] at h1
  have h3 : (0 : Int) < q.den := by have := q.den_pos; omega
  have h4 := q.den_pos
  simp [m__law_is_fraction, g__law_is_fraction, runM, startE, m_integer_int, h1, h3, h4]
theorem lcL_none {α : Type} {pat : D → En → Option En} {tt : M Bool} {el : M Sl} {vs : List Nat} {e : En} (a : α → D) : ∀ (xs : List α), (∀ x ∈ xs, ∃ s es e2, pat (a x) e = some (s :: es) ∧ tt (s :: es) = .ok false e2 ∧ wipeE e2 vs = e) → lcL pat tt el vs (xs.map a) e = .ok [] e
  | [], _ => rfl
  | x :: xs, h => by
    obtain ⟨s, es, e2, h1, h2, h3⟩ := h x List.mem_cons_self
    exact lcL_no h1 h2 (by rw [h3]; exact lcL_none a xs fun y hy => h y (List.mem_cons_of_mem _ hy))
theorem shaped_nil : SeqAt.shaped (.list []) = true := by simp [SeqAt.shaped, PyData.canLay0, PyData.canLayAll0, PyData.depth, PyData.depthAll]
@[simp] theorem eq_nil : dEq (.list []) (.list []) = some (.val (.bool true)) := eq_self shaped_nil
@[simp] theorem ne_nil : dNe (.list []) (.list []) = some (.val (.bool false)) := by
  rw [dNe]
  · rw [if_pos ⟨shaped_nil, shaped_nil⟩, eqv_self _ (shaped_lay shaped_nil)]
    rfl
  · intro _ _ h; cases h
theorem lc_bad_sizes (qs : List Rat) (h : ∀ q ∈ qs, 0 ≤ q) (s0 s1 : Sl) : lcL (pNm 2) (bOr (bNot (vB (vCall m__law_is_fraction (vCons (vVar 2) (vNil))))) (vB (vOp (dCmp fun i j => decide (i < j)) (vIxv 2 (vC (.int 0))) (vC (.int 0))))) (vVar 2) [2] (qs.map fr) [s0, s1, .no] = .ok [] [s0, s1, .no] :=
  lcL_none fr qs fun q hq => by
    have h1 := m_fraction_fr q
    have h2 : ¬ q.num < 0 := by
      have := Rat.num_nonneg.mpr (h q hq)
      omega
    exact ⟨s0, [s1, .val (fr q)], [s0, s1, .val (fr q)], rfl, by simp [h1, h2], rfl⟩
theorem m_sizes_eq {qs : List Rat} (h : ∀ q ∈ qs, 0 ≤ q) (hl : qs.length ≤ 1000) : m__law_is_sizes [.int qs.length, .tuple (qs.map fr)] = some (.ret (.val (.bool true))) := by
  have h1 := lc_bad_sizes qs h (.val (.int qs.length)) (.val (.tuple (qs.map fr)))
  have h2 : qs.length ≤ 1000000 := by omega
  simp only [m__law_is_sizes, runM, g__law_is_sizes, List.length_cons, List.length_nil, if_true]
  simp [startE, noOwn, wipeE, backE, lim_is, h1, h2]
/-- sums of at most twenty -/
theorem plus_few {N M : Nat} (S : Sz N M) {qs : List Rat} {d0 : D} (h0 : d0 = .list (qs.map fr) ∨ d0 = .tuple (qs.map fr)) (hq : ∀ q ∈ qs, Fx N M q) (hl : qs.length ≤ 20) : m__law_plus [d0] = some (.ret (.val (fr (sumQ qs)))) := by
  have hp : N ^ qs.length < 2 ^ 4000 := by
    by_cases h0 : qs.length = 0
    · rw [h0, Nat.pow_zero]; exact Nat.one_lt_two_pow (by decide)
    · have h2 : N ^ qs.length < (2 ^ 200) ^ qs.length := Nat.pow_lt_pow_left S.n1 h0
      rw [← Nat.pow_mul] at h2
      exact up h2 (by omega)
  exact m_plus_of S.n0 h0 hq (up (m := 8000) (mul_lt (S.sm _ (by omega)) hp) (by decide)) (up hp (by decide)) (up S.m1 (by decide))
theorem shaped_012 : SeqAt.shaped (.tuple [.int 0, .int 1, .int 2]) = true := by simp [SeqAt.shaped, PyData.canLay0, PyData.canLayAll0, PyData.depth, PyData.depthAll]
theorem notIn_012 {x : Int} (h : x = 0 ∨ x = 1 ∨ x = 2) : dNotIn (.int x) (.tuple [.int 0, .int 1, .int 2]) = some (.val (.bool false)) := by
  unfold dNotIn
  rw [if_pos ⟨shaped_int x, shaped_012⟩]
  rcases h with rfl | rfl | rfl <;> simp [anyEq, PyData.eqv]
theorem lc_bad_heaps (hs : List Int) (h : ∀ x ∈ hs, x = 0 ∨ x = 1 ∨ x = 2) (s0 s1 s2 s3 s4 s6 s7 : Sl) : lcL (pNm 5) (bOr (bNot (vB (vCall m__law_integer (vCons (vVar 5) (vNil))))) (vB (vOp dNotIn (vVar 5) (vTup (vCons (vC (.int 0)) (vCons (vC (.int 1)) (vCons (vC (.int 2)) (vNil)))))))) (vVar 5) [5] (hs.map PyData.int) [s0, s1, s2, s3, s4, .no, s6, s7] = .ok [] [s0, s1, s2, s3, s4, .no, s6, s7] :=
  lcL_none PyData.int hs fun x hx => by
    exact ⟨s0, [s1, s2, s3, s4, .val (.int x), s6, s7], [s0, s1, s2, s3, s4, .val (.int x), s6, s7], rfl, by simp [m_integer_int, notIn_012 (h x hx), lim_is], rfl⟩
def pairD (x : Rat × Int) : D := .tuple [fr x.1, .int x.2]
theorem zip_pairs : ∀ (qs : List Rat) (hs : List Int), zipD (qs.map fr) (hs.map PyData.int) = (qs.zip hs).map pairD
  | [], _ => by simp [zipD]
  | _ :: _, [] => by simp [zipD]
  | q :: qs, h :: hs => by
    have := zip_pairs qs hs
    unfold zipD at this ⊢
    rw [List.map_cons, List.map_cons, List.zipWith_cons_cons, this, List.zip_cons_cons, List.map_cons]
    rfl
theorem lc_sel (w : Int) (qs : List Rat) (hs : List Int) (s0 s1 s2 s3 s6 : Sl) : lcL (pTup (pCons (pNm 7) (pCons (pNm 5) (pNil)))) (vB (vOp dEq (vVar 5) (vVar 4))) (vVar 7) [7, 5] ((qs.zip hs).map pairD) [s0, s1, s2, s3, .val (.int w), .no, s6, .no] =
    .ok (((qs.zip hs).filter fun x => decide (x.2 = w)).map fun x => fr x.1) [s0, s1, s2, s3, .val (.int w), .no, s6, .no] :=
  lcL_filter pairD (fun x => decide (x.2 = w)) _ _ fun x _ =>
    ⟨s0, [s1, s2, s3, .val (.int w), .val (.int x.2), s6, .val (fr x.1)], [s0, s1, s2, s3, .val (.int w), .val (.int x.2), s6, .val (fr x.1)], [s0, s1, s2, s3, .val (.int w), .val (.int x.2), s6, .val (fr x.1)], rfl, by simp, fun _ => ⟨by simp, rfl⟩, fun _ => rfl⟩
end Fr

namespace Fr
open PySem Mv Sh

theorem sel_fx {N M : Nat} {qs : List Rat} (hq : ∀ q ∈ qs, Fx N M q) (hl : qs.length ≤ 20) (w : Int) (hs : List Int) : Fx N (20 * M) (selQ w qs hs) := by
  have h1 : ∀ q ∈ ((qs.zip hs).filter fun x => decide (x.2 = w)).map (·.1), Fx N M q := fun q h => by
    obtain ⟨x, hx, rfl⟩ := List.mem_map.mp h
    exact hq _ (List.of_mem_zip (show (x.1, x.2) ∈ qs.zip hs from (List.mem_filter.mp hx).1)).1
  refine (Fx.sum h1).mono (Nat.mul_le_mul_right _ ?_)
  rw [List.length_map]
  have h2 := List.length_filter_le (fun x => decide (x.2 = w)) (qs.zip hs)
  have h3 := List.length_zip (l₁ := qs) (l₂ := hs)
  omega
theorem sel_plus {N M : Nat} (S : Sz N M) {qs : List Rat} (hq : ∀ q ∈ qs, Fx N M q) (hl : qs.length ≤ 20) (w : Int) (hs : List Int) :
    m__law_plus [.list (((qs.zip hs).filter fun x => decide (x.2 = w)).map fun x => fr x.1)] = some (.ret (.val (fr (selQ w qs hs)))) := by
  have h1 : ∀ q ∈ ((qs.zip hs).filter fun x => decide (x.2 = w)).map (·.1), Fx N M q := fun q h => by
    obtain ⟨x, hx, rfl⟩ := List.mem_map.mp h
    exact hq _ (List.of_mem_zip (show (x.1, x.2) ∈ qs.zip hs from (List.mem_filter.mp hx).1)).1
  have h2 := List.length_filter_le (fun x => decide (x.2 = w)) (qs.zip hs)
  have h3 := List.length_zip (l₁ := qs) (l₂ := hs)
  have h := plus_few S (qs := ((qs.zip hs).filter fun x => decide (x.2 = w)).map (·.1)) (.inl rfl) h1 (by rw [List.length_map]; omega)
  rw [List.map_map] at h
  exact h
theorem sel_el {N M : Nat} (S : Sz N M) {qs : List Rat} (hq : ∀ q ∈ qs, Fx N M q) (hl : qs.length ≤ 20) (w : Int) (hs : List Int) (s2 s3 s6 : Sl) :
    vD (vCall m__law_plus (vCons (vLc (vZip (vCons (vVar 0) (vCons (vVar 1) (vNil)))) (pTup (pCons (pNm 7) (pCons (pNm 5) (pNil)))) (vB (vOp dEq (vVar 5) (vVar 4))) (vVar 7) [7, 5]) (vNil))) [.val (.tuple (qs.map fr)), .val (.tuple (hs.map PyData.int)), s2, s3, .val (.int w), .no, s6, .no] =
      .ok (fr (selQ w qs hs)) [.val (.tuple (qs.map fr)), .val (.tuple (hs.map PyData.int)), s2, s3, .val (.int w), .no, s6, .no] := by
  have h1 := lc_sel w qs hs (.val (.tuple (qs.map fr))) (.val (.tuple (hs.map PyData.int))) s2 s3 s6
  have h2 := sel_plus S hq hl w hs
  have h3 := zip_pairs qs hs
  have h4 : min qs.length hs.length ≤ 1000000 := by omega
  simp [noOwn, wipeE, backE, lim_is, h1, h2, h3, h4]
theorem lc_sums {N M : Nat} (S : Sz N M) {qs : List Rat} (hq : ∀ q ∈ qs, Fx N M q) (hl : qs.length ≤ 20) (hs : List Int) (s2 s3 s6 : Sl) :
    lcL (pNm 4) bYes (vCall m__law_plus (vCons (vLc (vZip (vCons (vVar 0) (vCons (vVar 1) (vNil)))) (pTup (pCons (pNm 7) (pCons (pNm 5) (pNil)))) (vB (vOp dEq (vVar 5) (vVar 4))) (vVar 7) [7, 5]) (vNil))) [4] [.int 0, .int 1, .int 2] [.val (.tuple (qs.map fr)), .val (.tuple (hs.map PyData.int)), s2, s3, .no, .no, s6, .no] =
      .ok [fr (selQ 0 qs hs), fr (selQ 1 qs hs), fr (selQ 2 qs hs)] [.val (.tuple (qs.map fr)), .val (.tuple (hs.map PyData.int)), s2, s3, .no, .no, s6, .no] :=
  lcL_map PyData.int (fun w => fr (selQ w qs hs)) [0, 1, 2] fun w _ => ⟨.val (.tuple (qs.map fr)), [.val (.tuple (hs.map PyData.int)), s2, s3, .val (.int w), .no, s6, .no], _, rfl, sel_el S hq hl w hs s2 s3 s6, rfl⟩
theorem m_hold_eq {N M : Nat} (S : Sz N (20 * M)) {qs : List Rat} (hq : ∀ q ∈ qs, Fx N M q) (hl : qs.length ≤ 20) {hs : List Int} (he : hs.length = qs.length) (h012 : ∀ x ∈ hs, x = 0 ∨ x = 1 ∨ x = 2)
    (hsum : ∀ w ∈ ([0, 1, 2] : List Int), 2 * selQ w qs hs ≤ selQ 0 qs hs + selQ 1 qs hs + selQ 2 qs hs) : m__law_heaps_hold [.tuple (qs.map fr), .tuple (hs.map PyData.int)] = some (.ret (.val (.bool true))) := by
  have S1 : Sz N M := ⟨S.n0, S.n1, Nat.lt_of_le_of_lt (by omega) S.m1⟩
  have h1 := lc_bad_heaps hs h012 (.val (.tuple (qs.map fr))) (.val (.tuple (hs.map PyData.int))) .no .no .no .no .no
  have h2 := lc_sums S1 hq hl hs .no .no .no
  have f : ∀ w, Fx N (20 * M) (selQ w qs hs) := fun w => sel_fx hq hl w hs
  have h3 := plus_few S (qs := [selQ 0 qs hs, selQ 1 qs hs, selQ 2 qs hs]) (.inl rfl) (fun q h => by
    simp only [List.mem_cons, List.not_mem_nil, or_false] at h
    rcases h with rfl | rfl | rfl <;> exact f _) (by simp)
  have e3 : sumQ [selQ 0 qs hs, selQ 1 qs hs, selQ 2 qs hs] = selQ 0 qs hs + selQ 1 qs hs + selQ 2 qs hs := by simp only [sumQ, Rat.add_zero, Rat.add_assoc]
  rw [e3] at h3
  have h3 : m__law_plus [.list [fr (selQ 0 qs hs), fr (selQ 1 qs hs), fr (selQ 2 qs hs)]] = _ := h3
  have fw : Fx N (3 * (20 * M)) (selQ 0 qs hs + selQ 1 qs hs + selQ 2 qs hs) := (((f 0).add (f 1)).add (f 2)).mono (by omega)
  generalize hW : selQ 0 qs hs + selQ 1 qs hs + selQ 2 qs hs = W at *
  have h4 : ∀ s0 s1 s4 s5 s7, lcL (pNm 6) (vB (vCall m__law_below (vCons (vVar 3) (vCons (vCall m__law_plus (vCons (vLst (vCons (vVar 6) (vCons (vVar 6) (vNil)))) (vNil))) (vNil))))) (vVar 6) [6] [fr (selQ 0 qs hs), fr (selQ 1 qs hs), fr (selQ 2 qs hs)] [s0, s1, .val (.list [fr (selQ 0 qs hs), fr (selQ 1 qs hs), fr (selQ 2 qs hs)]), .val (fr W), s4, s5, .no, s7] =
      .ok [] [s0, s1, .val (.list [fr (selQ 0 qs hs), fr (selQ 1 qs hs), fr (selQ 2 qs hs)]), .val (fr W), s4, s5, .no, s7] := fun s0 s1 s4 s5 s7 =>
    lcL_none (fun w => fr (selQ w qs hs)) [0, 1, 2] fun w hw => by
      have g1 := plus_few S (qs := [selQ w qs hs, selQ w qs hs]) (.inl rfl) (fun q h => by
        simp only [List.mem_cons, List.not_mem_nil, or_false] at h
        rcases h with rfl | rfl <;> exact f _) (by simp)
      have e1 : sumQ [selQ w qs hs, selQ w qs hs] = 2 * selQ w qs hs := by simp only [sumQ, Rat.add_zero]; grind
      rw [e1] at g1
      have g1 : m__law_plus [.list [fr (selQ w qs hs), fr (selQ w qs hs)]] = _ := g1
      have g2 := m_below_eq (S.bq (by decide) fw) (S.bq (k := 2) (by decide) (fx2 (f w)))
      have g3 : ¬ W < 2 * selQ w qs hs := Rat.not_lt.mpr (hsum w hw)
      exact ⟨s0, [s1, .val (.list [fr (selQ 0 qs hs), fr (selQ 1 qs hs), fr (selQ 2 qs hs)]), .val (fr W), s4, s5, .val (fr (selQ w qs hs)), s7], [s0, s1, .val (.list [fr (selQ 0 qs hs), fr (selQ 1 qs hs), fr (selQ 2 qs hs)]), .val (fr W), s4, s5, .val (fr (selQ w qs hs)), s7], rfl, by simp [g1, g2, g3, lim_is], rfl⟩
  have hl2 : qs.length ≤ 1000000 := by omega
  simp only [m__law_heaps_hold, runM, g__law_heaps_hold, List.length_cons, List.length_nil, if_true]
  simp [startE, noOwn, wipeE, backE, lim_is, he, hl2, h1, h2, h3, h4]
end Fr

namespace Fr
open PySem Mv Sh

/-! ### told closings hold -/
def amSp (ss : List (Rat × Rat)) (p : Rat × Rat) : D := .tuple [fr (amt (tot ss) p.2), sp p]
theorem zip_amts (ss : List (Rat × Rat)) : ∀ ps : List (Rat × Rat), zipD (ps.map fun p => fr (amt (tot ss) p.2)) (ps.map sp) = ps.map (amSp ss)
  | [] => rfl
  | p :: ps => by
    have := zip_amts ss ps
    unfold zipD at this ⊢
    rw [List.map_cons, List.map_cons, List.zipWith_cons_cons, this, List.map_cons]
    rfl
theorem within_loop {N M : Nat} {ss : List (Rat × Rat)} (S : Spans N M ss) (hc : closesB ss = true) (b : MS)
    (hb : b = sIf (bOr (vB (vCall m__law_below (vCons (vVar 2) (vCons (vIxv 3 (vC (.int 0))) (vNil))))) (vB (vCall m__law_below (vCons (vIxv 3 (vC (.int 1))) (vCons (vVar 2) (vNil)))))) (sRet (vC (.bool false))) (sNil)) :
    ∀ (ps : List (Rat × Rat)) (s0 s1 s2 s3 : Sl), (∀ p ∈ ps, p ∈ ss) → ∃ t2 t3, forL (pTup (pCons (pNm 2) (pCons (pNm 3) (pNil)))) b (ps.map (amSp ss)) [s0, s1, s2, s3] = .ok .nx [s0, s1, t2, t3]
  | [], s0, s1, s2, s3, _ => ⟨s2, s3, rfl⟩
  | p :: ps, s0, s1, s2, s3, hp => by
    have hm := hp p List.mem_cons_self
    obtain ⟨t2, t3, ih⟩ := within_loop S hc b hb ps s0 s1 (.val (fr (amt (tot ss) p.2))) (.val (sp p)) fun q hq => hp q (List.mem_cons_of_mem _ hq)
    obtain ⟨c1, c2⟩ := closes_in S hc hm
    have ba : Bq (amt (tot ss) p.2) := S.bq (k := 101) (by decide) (S.amts _ (List.mem_map_of_mem (f := fun p => amt (tot ss) p.2) hm))
    have e1 := m_below_eq ba (S.one (S.all p hm).f1)
    have e2 := m_below_eq (S.one (S.all p hm).f2) ba
    have n1 : ¬ amt (tot ss) p.2 < p.1 := Rat.not_lt.mpr c1
    have n2 : ¬ p.2 < amt (tot ss) p.2 := Rat.not_lt.mpr c2
    refine ⟨t2, t3, ?_⟩
    rw [List.map_cons, forL_nx (e1 := [s0, s1, .val (fr (amt (tot ss) p.2)), .val (sp p)]) (e2 := [s0, s1, .val (fr (amt (tot ss) p.2)), .val (sp p)]) rfl ?_, ih]
    rw [hb]
    simp [e1, e2, n1, n2]
theorem amts_nn {N M : Nat} {ss : List (Rat × Rat)} (S : Spans N M ss) (hc : closesB ss = true) : ∀ q ∈ amts ss, 0 ≤ q := fun q hq => by
  obtain ⟨p, hp, rfl⟩ :=
                                                                                                                List.mem_map.mp hq
  exact Rat.le_trans (S.all p hp).lo (closes_in S hc hp).1
def told (ss : List (Rat × Rat)) : D := .tuple [.tuple ((amts ss).map fr), .tuple ((heapsF (sumQ (amts ss)) (amts ss) 0 0).map PyData.int)]
theorem m_is_closing_eq {N M : Nat} {ss : List (Rat × Rat)} (S : Spans N M ss) (hM : M < 2 ^ 190) (hl : ss.length ≤ 20) (hc : closesB ss = true) : m__law_is_closing [.tuple (ss.map sp), told ss] = some (.ret (.val (.bool true))) := by
  have nn := amts_nn S hc
  have al : (amts ss).length = ss.length := by unfold amts; rw [List.length_map]
  have small : ∀ q ∈ amts ss, 2 * q ≤ sumQ (amts ss) := fun q hq => of_decide_eq_true (List.all_eq_true.mp (closes_small S) q hq)
  have T0 := sumQ_nn nn
  obtain ⟨g1, g2, g3, g4, g5⟩ := heaps_right T0 (amts ss) 0 small (by rw [Rat.mul_zero]; exact T0) (by rw [Rat.zero_add])
  have Z : Sz N (20 * (101 * M)) := ⟨S.n0, S.n1, by
    rw [← Nat.mul_assoc]
    exact up (mul_lt (a := 20 * 101) (n := 11) (by decide) hM) (by decide)⟩
  have hh := m_hold_eq Z S.amts (by omega) (heaps_len _ _ _ _) g5 (fun w hw => by
    rw [g4]
    rw [Rat.zero_add] at g1
    simp only [List.mem_cons, List.not_mem_nil, or_false] at hw
    have e : ∀ w, amts ss = [] → 2 * selQ w (amts ss) (heapsF (sumQ (amts ss)) (amts ss) 0 0) ≤ sumQ (amts ss) := fun w h => by
      rw [h, selQ_nil, Rat.mul_zero]
      exact Rat.le_refl
    rcases hw with rfl | rfl | rfl
    · exact g1
    · exact g2.elim id (e 1)
    · exact g3.elim id (e 2))
  have hs := m_sizes_eq nn (by omega)
  rw [al] at hs
  have e5 : (amts ss).map fr = ss.map fun p => fr (amt (tot ss) p.2) := by unfold amts; rw [List.map_map]; rfl
  obtain ⟨t2, t3, hw⟩ := within_loop S hc _ rfl ss (.val (.tuple (ss.map sp))) (.val (told ss)) .no .no fun _ h => h
  have hz := zip_amts ss ss
  unfold told at hw ⊢
  rw [e5] at hs hh hw ⊢
  simp only [m__law_is_closing, runM, g__law_is_closing, List.length_cons, List.length_nil, if_true]
  simp [startE, hs, hh, hz, hw]
theorem m_way_to_eq {ss : List (Rat × Rat)} {size : Rat} (hl : ss.length ≤ 1000) {r : Sl} (h : m_closing [.tuple ((ss ++ [(size, size)]).map sp)] = some (.ret r)) : m_way_to [.tuple (ss.map sp), fr size] = some (.ret r) := by
  rw [List.map_append, List.map_singleton] at h
  have hl2 : ss.length + 1 ≤ 1000000 := by omega
  have e : sp (size, size) = .tuple [fr size, fr size] := rfl
  rw [e] at h
  simp [m_way_to, g_way_to, runM, startE, lim_is, hl2, h]

/-! ### scaled spans -/
def bys : List Rat := [Rat.divInt 1 1, Rat.divInt 1 1, Rat.divInt 999999937 1, Rat.divInt 1 7, Rat.divInt 3 10, Rat.divInt (10 ^ 30) 7]
theorem bys_fr : bys.map fr = [.tuple [.int 1, .int 1], .tuple [.int 1, .int 1], .tuple [.int 999999937, .int 1], .tuple [.int 1, .int 7], .tuple [.int 3, .int 10], .tuple [.int 1000000000000000000000000000000, .int 7]] := rfl
theorem bys_fx : ∀ q ∈ bys, Fx 70 (10 ^ 31) q ∧ 0 < q := fun q hq => by
  simp only [bys, List.mem_cons, List.not_mem_nil, or_false] at hq
  rcases hq with rfl | rfl | rfl | rfl | rfl | rfl
  · exact ⟨⟨70, by decide, rfl⟩, by decide⟩
  · exact ⟨⟨70, by decide, rfl⟩, by decide⟩
  · exact ⟨⟨69999995590, by decide, rfl⟩, by decide⟩
  · exact ⟨⟨10, by decide, rfl⟩, by decide⟩
  · exact ⟨⟨21, by decide, rfl⟩, by decide⟩
  · exact ⟨⟨10 ^ 31, by decide, rfl⟩, by decide⟩
theorem lc_scaled {N M : Nat} {ss : List (Rat × Rat)} (S : ∀ p ∈ ss, Span N M p) (hN : 0 < N ∧ N < 2 ^ 200) (hM : M < 2 ^ 200) {q : Rat} (hq : Bq q) (s0 s1 : Sl) :
    lcL (pTup (pCons (pNm 3) (pCons (pNm 4) (pNil)))) bYes (vTup (vCons (vCall m__law_by (vCons (vVar 3) (vCons (vVar 2) (vNil)))) (vCons (vCall m__law_by (vCons (vVar 4) (vCons (vVar 2) (vNil)))) (vNil)))) [3, 4] (ss.map sp) [s0, s1, .val (fr q), .no, .no] =
      .ok (ss.map fun p => sp (p.1 * q, p.2 * q)) [s0, s1, .val (fr q), .no, .no] :=
  lcL_map sp _ ss fun p hp => by
    have e1 := m_by_eq ((S p hp).f1.bq ⟨hN.1, up hN.2 (by decide)⟩ (up hM (by decide))) hq
    have e2 := m_by_eq ((S p hp).f2.bq ⟨hN.1, up hN.2 (by decide)⟩ (up hM (by decide))) hq
    exact ⟨s0, [s1, .val (fr q), .val (fr p.1), .val (fr p.2)], [s0, s1, .val (fr q), .val (fr p.1), .val (fr p.2)], rfl, by simp [e1, e2, lim_is, sp], rfl⟩
def scl (q : Rat) (ss : List (Rat × Rat)) : List (Rat × Rat) := ss.map fun p => (p.1 * q, p.2 * q)
theorem scaled_ok {xs : List D} (hb : BagOk xs) {N M : Nat} {ss : List (Rat × Rat)} (S : ∀ p ∈ ss, Span N M p) (hN : 0 < N ∧ N < 2 ^ 200) (hM : M < 2 ^ 200) (hl : ss.length ≤ 1000) :
    ∃ q ys, m__law_scaled xs [.tuple (ss.map sp)] = some (.ret (.val (.tuple [.tuple ((scl q ss).map sp), fr q])), ys) ∧ BagOk ys ∧ q ∈ bys := by
  obtain ⟨d, ys, e1, hd, B⟩ := one_list hb (ds := bys.map fr) (by simp [bys]) (by simp [bys])
  obtain ⟨q, hq, rfl⟩ :=
                                                                                                                List.mem_map.mp hd
  rw [bys_fr] at e1
  have bq : Bq q := (bys_fx q hq).1.bq ⟨by decide, Nat.lt_of_lt_of_le (show 70 < 2 ^ 7 by decide) (Nat.pow_le_pow_right (by decide) (by decide))⟩ (up (k := 200) (by decide) (by decide))
  have h2 := lc_scaled S hN hM bq (.own true ys) (.val (.tuple (ss.map sp)))
  have hl2 : ss.length ≤ 1000000 := by omega
  refine ⟨q, ys, ?_, B, hq⟩
  have e3 : (scl q ss).map sp = ss.map fun p => sp (p.1 * q, p.2 * q) := by unfold scl; rw [List.map_map]; rfl
  rw [e3]
  simp only [m__law_scaled, runB, g__law_scaled, List.length_cons, List.length_nil, if_true]
  simp [startE, noOwn, wipeE, backE, lim_is, hl2, e1, h2, dTuple, dPow]
end Fr

namespace Fr
open PySem Mv Sh

/-! ### right angles -/
def dirs : List (Int × Int) := [(1, 0), (0, 1), (-1, 0), (0, -1)]
theorem turned_ok {k : Int} (h0 : 0 ≤ k) (h4 : k < 4) : ∃ c, c ∈ dirs ∧ m__law_turned [.tuple [.int 1, .int 0], .int k] = some (.ret (.val (prD c.1 c.2))) := by
  have : k = 0 ∨ k = 1 ∨ k = 2 ∨ k = 3 := by omega
  rcases this with rfl | rfl | rfl | rfl
  · exact ⟨(1, 0), by simp [dirs], rfl⟩
  · exact ⟨(0, 1), by simp [dirs], rfl⟩
  · exact ⟨(-1, 0), by simp [dirs], rfl⟩
  · exact ⟨(0, -1), by simp [dirs], rfl⟩
theorem dir_fr {z : Int} (h : z = 1 ∨ z = 0 ∨ z = -1) : PyData.tuple [.int z, .int 1] = fr (z : Rat) ∧ Fx 1 1 (z : Rat) := by
  rcases h with rfl | rfl | rfl
  · exact ⟨rfl, ⟨1, by decide, rfl⟩⟩
  · exact ⟨rfl, ⟨0, by decide, rfl⟩⟩
  · exact ⟨rfl, ⟨-1, by decide, rfl⟩⟩
theorem plus2 {N M : Nat} (hN : 0 < N) (hn : N < 2 ^ 200) (hM : M < 2 ^ 1000) {a b : Rat} (ha : Fx N M a) (hb : Fx N M b) : m__law_plus [.list [fr a, fr b]] = some (.ret (.val (fr (a + b)))) := by
  have h := m_plus_of hN (qs := [a, b]) (.inl rfl) (fun q h => by
    simp only [List.mem_cons, List.not_mem_nil, or_false] at h
    rcases h with rfl | rfl <;> assumption) (by
      have h2 : N ^ 2 < 2 ^ 400 := by rw [Nat.pow_two]; exact mul_lt hn hn
      exact up (m := 8000) (mul_lt (n := 1002) (m := 400) (mul_lt (a := 2) (n := 2) (by decide) hM) h2) (by decide)) (by
      have h2 : N ^ 2 < 2 ^ 400 := by rw [Nat.pow_two]; exact mul_lt hn hn
      exact up h2 (by decide)) (up hM (by decide))
  have e : sumQ [a, b] = a + b := by simp only [sumQ, Rat.add_zero]
  rw [e] at h
  exact h
/-- what is known of the arrow so far; G is the sum of the greatest -/
structure Arr (G : Rat) (done : List (Rat × Rat)) (r o : Rat) : Prop where
  a1 : r + o ≤ G
  a2 : -(r + o) ≤ G
  a3 : r - o ≤ G
  a4 : -(r - o) ≤ G
  a5 : ∀ p ∈ done, p.1 - (G - p.2) ≤ r ∨ p.1 - (G - p.2) ≤ -r ∨ p.1 - (G - p.2) ≤ o ∨ p.1 - (G - p.2) ≤ -o
theorem Arr.step {G : Rat} {done : List (Rat × Rat)} {r o : Rat} (h : Arr G done r o) {p : Rat × Rat} {a : Rat} (h0 : 0 ≤ p.1) (h1 : p.1 ≤ a) (h2 : a ≤ p.2) {c : Int × Int} (hc : c ∈ dirs) : Arr (G + p.2) (done ++ [p]) (r + a * (c.1 : Rat)) (o + a * (c.2 : Rat)) := by
  obtain ⟨a1, a2, a3, a4, a5⟩ := h
  have old : ∀ r' o' : Rat, r - a ≤ r' → -r - a ≤ -r' → o - a ≤ o' → -o - a ≤ -o' → ∀ q ∈ done, q.1 - (G + p.2 - q.2) ≤ r' ∨ q.1 - (G + p.2 - q.2) ≤ -r' ∨ q.1 - (G + p.2 - q.2) ≤ o' ∨ q.1 - (G + p.2 - q.2) ≤ -o' := fun r' o' b1 b2 b3 b4 q hq => by
    rcases a5 q hq with z | z | z | z
    · left; grind
    · right; left; grind
    · right; right; left; grind
    · right; right; right; grind
  simp only [dirs, List.mem_cons, List.not_mem_nil, or_false] at hc
  rcases hc with rfl | rfl | rfl | rfl
  · have e1 : r + a * ((1 : Int) : Rat) = r + a := by grind
    have e2 : o + a * ((0 : Int) : Rat) = o := by grind
    rw [e1, e2]
    refine ⟨by grind, by grind, by grind, by grind, fun q hq => ?_⟩
    rcases List.mem_append.mp hq with
                                                                                                                  hq | hq
    · exact old _ _ (by grind) (by grind) (by grind) (by grind) q hq
    · cases List.mem_singleton.mp hq; left; grind
  · have e1 : r + a * ((0 : Int) : Rat) = r := by grind
    have e2 : o + a * ((1 : Int) : Rat) = o + a := by grind
    rw [e1, e2]
    refine ⟨by grind, by grind, by grind, by grind, fun q hq => ?_⟩
    rcases List.mem_append.mp hq with
                                                                                                                  hq | hq
    · exact old _ _ (by grind) (by grind) (by grind) (by grind) q hq
    · cases List.mem_singleton.mp hq; right; right; left; grind
  · have e1 : r + a * ((-1 : Int) : Rat) = r - a := by grind
    have e2 : o + a * ((0 : Int) : Rat) = o := by grind
    rw [e1, e2]
    refine ⟨by grind, by grind, by grind, by grind, fun q hq => ?_⟩
    rcases List.mem_append.mp hq with
                                                                                                                  hq | hq
    · exact old _ _ (by grind) (by grind) (by grind) (by grind) q hq
    · cases List.mem_singleton.mp hq; right; left; grind
  · have e1 : r + a * ((0 : Int) : Rat) = r := by grind
    have e2 : o + a * ((-1 : Int) : Rat) = o - a := by grind
    rw [e1, e2]
    refine ⟨by grind, by grind, by grind, by grind, fun q hq => ?_⟩
    rcases List.mem_append.mp hq with
                                                                                                                  hq | hq
    · exact old _ _ (by grind) (by grind) (by grind) (by grind) q hq
    · cases List.mem_singleton.mp hq; right; right; right; grind
theorem sq_le {x y : Rat} (h0 : 0 ≤ x) (h : x ≤ y) : x * x ≤ y * y :=
  Rat.le_trans (Rat.mul_le_mul_of_nonneg_left h h0) (Rat.mul_le_mul_of_nonneg_right h (Rat.le_trans h0 h))
theorem sq_nn (x : Rat) : 0 ≤ x * x := by
  rcases Rat.le_total (a := 0) (b := x) with h | h
  · exact Rat.mul_nonneg h h
  · have h2 : 0 ≤ -x := by grind
    have := Rat.mul_nonneg h2 h2
    grind
theorem sq_le_abs {x y : Rat} (h1 : x ≤ y) (h2 : -x ≤ y) : x * x ≤ y * y := by
  rcases Rat.le_total (a := 0) (b := x) with h | h
  · exact sq_le h h1
  · have := sq_le (x := -x) (by grind) h2
    grind
theorem Arr.top {G : Rat} {done : List (Rat × Rat)} {r o : Rat} (h : Arr G done r o) : r * r + o * o ≤ G * G := by
  have h1 := sq_le_abs h.a1 h.a2
  have h2 := sq_le_abs h.a3 h.a4
  grind
theorem maxQ_mem : ∀ (rs : List Rat) (q : Rat), maxQ q rs = q ∨ maxQ q rs ∈ rs
  | [], q => .inl rfl
  | r :: rs, q => by
    rw [maxQ]
    rcases maxQ_mem rs (if q < r then r else q) with h | h
    · rw [h]
      split
      · exact .inr List.mem_cons_self
      · exact .inl rfl
    · exact .inr (List.mem_cons_of_mem _ h)
theorem maxQ_ge : ∀ (rs : List Rat) (q : Rat), q ≤ maxQ q rs ∧ ∀ x ∈ rs, x ≤ maxQ q rs
  | [], q => ⟨Rat.le_refl, fun x hx => (List.not_mem_nil hx).elim⟩
  | r :: rs, q => by
    rw [maxQ]
    obtain ⟨h1, h2⟩ := maxQ_ge rs (if q < r then r else q)
    refine ⟨by split at h1 <;> grind, fun x hx => ?_⟩
    rcases List.mem_cons.mp hx with
                                                                                                                  rfl | hx
    · split at h1 <;> grind
    · exact h2 x hx
theorem low_nn (ss : List (Rat × Rat)) : 0 ≤ low ss := (maxQ_ge _ _).1
theorem Arr.bot {ss : List (Rat × Rat)} {r o : Rat} (h : Arr (tot ss) ss r o) : low ss * low ss ≤ r * r + o * o := by
  have hr := sq_nn r
  have ho := sq_nn o
  have h0 := low_nn ss
  rcases maxQ_mem (ss.map (leftOf ss)) 0 with e | e
  · have e : low ss = 0 := e
    rw [e]
    grind
  · obtain ⟨p, hp, e⟩ := List.mem_map.mp e
    have e : leftOf ss p = low ss := e
    have h5 := h.a5 p hp
    have e2 : p.1 - (tot ss - p.2) = low ss := e
    rw [e2] at h5
    rcases h5 with z | z | z | z
    · have := sq_le h0 z; grind
    · have := sq_le h0 z; grind
    · have := sq_le h0 z; grind
    · have := sq_le h0 z; grind
end Fr

namespace Fr
open PySem Mv Sh

def wiB : MS := sSeq (sSet 6 (vTup (vCons (vCallB 0 m__law_take (vCons (vC (.int 7)) (vNil))) (vCons (vC (.int 6)) (vNil))))) (sSeq (sSet 7 (vCall m__law_plus (vCons (vLst (vCons (vIxv 5 (vC (.int 0))) (vCons (vCall m__law_by (vCons (vCall m__law_ratio (vCons (vIxv 6 (vC (.int 0))) (vCons (vIxv 6 (vC (.int 1))) (vNil)))) (vCons (vCall m__law_minus (vCons (vIxv 5 (vC (.int 1))) (vCons (vIxv 5 (vC (.int 0))) (vNil)))) (vNil)))) (vNil)))) (vNil)))) (sSeq (sSet 8 (vCall m__law_turned (vCons (vTup (vCons (vC (.int 1)) (vCons (vC (.int 0)) (vNil)))) (vCons (vCallB 0 m__law_take (vCons (vC (.int 4)) (vNil))) (vNil))))) (sSeq (sSet 3 (vCall m__law_plus (vCons (vLst (vCons (vVar 3) (vCons (vCall m__law_by (vCons (vVar 7) (vCons (vTup (vCons (vIxv 8 (vC (.int 0))) (vCons (vC (.int 1)) (vNil)))) (vNil)))) (vNil)))) (vNil)))) (sSet 4 (vCall m__law_plus (vCons (vLst (vCons (vVar 4) (vCons (vCall m__law_by (vCons (vVar 7) (vCons (vTup (vCons (vIxv 8 (vC (.int 1))) (vCons (vC (.int 1)) (vNil)))) (vNil)))) (vNil)))) (vNil)))))))
def WiI (M : Nat) (ss : List (Rat × Rat)) (s1 s2 : Sl) (ds : List D) (e : En) : Prop := ∃ (done todo : List (Rat × Rat)) (r o : Rat) (ys : List D) (s5 s6 s7 s8 : Sl), ds = todo.map sp ∧ ss = done ++ todo ∧ e = [.own true ys, s1, s2, .val (fr r), .val (fr o), s5, s6, s7, s8, .no] ∧ BagOk ys ∧
  Fx 2520 (done.length * (18 * M)) r ∧ Fx 2520 (done.length * (18 * M)) o ∧ Arr (tot done) done r o
@[simp] theorem pr0 (a b : Int) : dIx (prD a b) (.int 0) = some (.val (.int a)) := rfl
@[simp] theorem pr1 (a b : Int) : dIx (prD a b) (.int 1) = some (.val (.int b)) := rfl
theorem tot_app (A : List (Rat × Rat)) (p : Rat × Rat) : tot (A ++ [p]) = tot A + p.2 := by
  unfold tot
  rw [List.map_append, sumQ_app, List.map_singleton, sumQ, sumQ, Rat.add_zero]
theorem wi_step {M : Nat} {ss : List (Rat × Rat)} (S : ∀ p ∈ ss, Span 420 M p) (hM : M < 2 ^ 120) (hl : ss.length ≤ 20) (s1 s2 : Sl) (d : D) (ds : List D) (e : En) (h : WiI M ss s1 s2 (d :: ds) e) : ∃ e1 e2, pNm 5 d e = some e1 ∧ wiB e1 = .ok .nx e2 ∧ WiI M ss s1 s2 ds e2 := by
  obtain ⟨done, todo, r, o, ys, s5, s6, s7, s8, hd, hs, rfl, B, fr1', fo1, A⟩ := h
  cases todo with
  | nil => cases hd
  | cons p todo =>
    rw [List.map_cons, List.cons.injEq] at hd
    obtain ⟨rfl, rfl⟩ := hd
    have hp : p ∈ ss := by rw [hs]; exact List.mem_append_right _ List.mem_cons_self
    have P := S p hp
    have hdl : done.length + 1 ≤ 20 := by
      have := congrArg List.length hs
      rw [List.length_append, List.length_cons] at this
      omega
    obtain ⟨k, y2, e2, k0, k7, B2⟩ := take_ok B (many := 7) (by decide) (by decide)
    obtain ⟨t, y3, e3, t0, t4, B3⟩ := take_ok B2 (many := 4) (by decide) (by decide)
    obtain ⟨c, hc, e4⟩ := turned_ok t0 t4
    -- the share
    have er := ratio_k (a := k) (z := 6) (by decide) (by decide)
    have ft : Fx 6 6 (Rat.divInt k 6) := ⟨k, by omega, rfl⟩
    have t1 : 0 ≤ Rat.divInt k 6 := divInt_nn (by decide) k0
    have t2 : Rat.divInt k 6 ≤ 1 := by
      have := divInt_le (a := k) (b := 6) (d := 6) (by decide) (by omega)
      have e1 : Rat.divInt 6 6 = 1 := rfl
      rwa [e1] at this
    generalize hT : Rat.divInt k 6 = T at *
    -- the amount
    have b420 : 0 < 420 ∧ 420 < 2 ^ 4000 := ⟨by decide, up (n := 420) (k := 9) (by decide) (by decide)⟩
    have b2520 : 0 < 2520 ∧ 2520 < 2 ^ 4000 := ⟨by decide, up (n := 2520) (k := 12) (by decide) (by decide)⟩
    have sm : ∀ j, j ≤ 1000 → j * M < 2 ^ 130 := fun j hj => up (mul_lt (a := j) (n := 10) (by omega) hM) (by decide)
    have fd : Fx 420 (2 * M) (p.2 - p.1) := (P.f2.sub P.f1).mono (by omega)
    have em := m_minus_eq (P.f2.bq b420 (up hM (by decide))) (P.f1.bq b420 (up hM (by decide)))
    have eb := m_by_eq (ft.bq ⟨by decide, up (n := 6) (k := 3) (by decide) (by decide)⟩ (up (n := 6) (k := 3) (by decide) (by decide))) (fd.bq b420 (up (sm 2 (by decide)) (by decide)))
    have fb : Fx 2520 (12 * M) (T * (p.2 - p.1)) := (ft.mul fd).mono (by omega)
    have fl : Fx 2520 (6 * M) p.1 := (P.f1.fine 6 (by decide)).mono (by omega)
    have ea := plus2 (N := 2520) (M := 12 * M) (by decide) (up (n := 2520) (k := 12) (by decide) (by decide)) (up (sm 12 (by decide)) (by decide)) (fl.mono (by omega)) fb
    have fa : Fx 2520 (18 * M) (p.1 + T * (p.2 - p.1)) := (fl.add fb).mono (by omega)
    have a1 : p.1 ≤ p.1 + T * (p.2 - p.1) := by
      have := Rat.mul_nonneg t1 (show 0 ≤ p.2 - p.1 by have := P.le; grind)
      grind
    have a2 : p.1 + T * (p.2 - p.1) ≤ p.2 := by
      have h1 : 0 ≤ p.2 - p.1 := by have := P.le; grind
      have := Rat.mul_le_mul_of_nonneg_right t2 h1
      grind
    generalize hA : p.1 + T * (p.2 - p.1) = a at *
    -- the arrow
    have hc1 : c.1 = 1 ∨ c.1 = 0 ∨ c.1 = -1 := by
      simp only [dirs, List.mem_cons, List.not_mem_nil, or_false] at hc
      rcases hc with rfl | rfl | rfl | rfl <;> decide
    have hc2 : c.2 = 1 ∨ c.2 = 0 ∨ c.2 = -1 := by
      simp only [dirs, List.mem_cons, List.not_mem_nil, or_false] at hc
      rcases hc with rfl | rfl | rfl | rfl <;> decide
    obtain ⟨d1, x1⟩ := dir_fr hc1
    obtain ⟨d2, x2⟩ := dir_fr hc2
    have ba : Bq a := fa.bq b2520 (up (sm 18 (by decide)) (by decide))
    have b1 : ∀ z : Rat, Fx 1 1 z → Bq z := fun z h => h.bq ⟨by decide, up (n := 1) (k := 1) (by decide) (by decide)⟩ (up (n := 1) (k := 1) (by decide) (by decide))
    have g1 := m_by_eq ba (b1 _ x1)
    have g2 := m_by_eq ba (b1 _ x2)
    have f1 : Fx 2520 (18 * M) (a * (c.1 : Rat)) := (fa.mul x1).mono (by omega)
    have f2 : Fx 2520 (18 * M) (a * (c.2 : Rat)) := (fa.mul x2).mono (by omega)
    have le1 : done.length * (18 * M) ≤ 360 * M := by
      calc done.length * (18 * M) ≤ 20 * (18 * M) := Nat.mul_le_mul_right _ (by omega)
        _ = 360 * M := by omega
    have p1 := plus2 (N := 2520) (M := 360 * M) (by decide) (up (n := 2520) (k := 12) (by decide) (by decide)) (up (sm 360 (by decide)) (by decide)) (fr1'.mono le1) (f1.mono (by omega))
    have p2 := plus2 (N := 2520) (M := 360 * M) (by decide) (up (n := 2520) (k := 12) (by decide) (by decide)) (up (sm 360 (by decide)) (by decide)) (fo1.mono le1) (f2.mono (by omega))
    have A' := A.step P.lo a1 a2 hc
    rw [← tot_app] at A'
    have le2 : done.length * (18 * M) + 18 * M ≤ (done ++ [p]).length * (18 * M) := by
      rw [List.length_append,
                                                                                                                    List.length_singleton]
      exact Nat.le_of_eq (Nat.succ_mul done.length (18 * M)).symm
    refine ⟨[.own true ys, s1, s2, .val (fr r), .val (fr o), .val (sp p), s6, s7, s8, .no], [.own true y3, s1, s2, .val (fr (r + a * (c.1 : Rat))), .val (fr (o + a * (c.2 : Rat))), .val (sp p), .val (prD k 6), .val (fr a), .val (prD c.1 c.2), .no], rfl, ?_, done ++ [p], todo, _, _, y3, _, _, _, _, rfl, by rw [hs, List.append_assoc]; rfl, rfl, B3, (fr1'.add f1).mono le2, (fo1.add f2).mono le2, A'⟩
    have d0 : PyData.tuple [.int k, .int 6] = prD k 6 := rfl
    simp [wiB, lim_is, e2, e3, e4, d0, er, em, eb, ea, d1, d2, g1, g2, p1, p2]
theorem arr0 : Arr (tot []) [] 0 0 := by
  have e : tot [] = 0 := rfl
  rw [e]
  exact ⟨by grind, by grind, by grind, by grind, fun p hp => (List.not_mem_nil hp).elim⟩
theorem m_within_ok {xs : List D} (hb : BagOk xs) {M : Nat} {ss : List (Rat × Rat)} (S : ∀ p ∈ ss, Span 420 M p) (hM : M < 2 ^ 120) (hl : ss.length ≤ 20) {lo : Rat} (hlo : lo = low ss) (bl : Bq lo) (bt : Bq (tot ss)) (bl2 : Bq (lo * lo)) (bt2 : Bq (tot ss * tot ss)) :
    ∃ ys, m__law_is_within xs [.tuple (ss.map sp), .tuple [fr lo, fr (tot ss)]] = some (.ret (.val (.bool true)), ys) ∧ BagOk ys := by
  subst hlo
  obtain ⟨e', hf, done, todo, r, o, ys, s5, s6, s7, s8, ht, hs, rfl, B, f1, f2, A⟩ := for_inv (WiI M ss (.val (.tuple (ss.map sp))) (.val (.tuple [fr (low ss), fr (tot ss)]))) (wi_step S hM hl _ _) (ss.map sp)
    [.own true xs, .val (.tuple (ss.map sp)), .val (.tuple [fr (low ss), fr (tot ss)]), .val (fr 0), .val (fr 0), .no, .no, .no, .no, .no]
    ⟨[], ss, 0, 0, xs, _, _, _, _, rfl, rfl, rfl, hb, Fx.zero, Fx.zero, arr0⟩
  have ht : todo = [] := by
    cases todo with
    | nil => rfl
    | cons _ _ => cases ht
  subst ht
  rw [List.append_nil] at hs
  subst hs
  have sm : ∀ j, j ≤ 1000 → j * M < 2 ^ 130 := fun j hj => up (mul_lt (a := j) (n := 10) (by omega) hM) (by decide)
  have le1 : ss.length * (18 * M) ≤ 360 * M := by
    calc ss.length * (18 * M) ≤ 20 * (18 * M) := Nat.mul_le_mul_right _ (by omega)
      _ = 360 * M := by omega
  have b2520 : 0 < 2520 ∧ 2520 < 2 ^ 4000 := ⟨by decide, up (n := 2520) (k := 12) (by decide) (by decide)⟩
  have br : Bq r := (f1.mono le1).bq b2520 (up (sm 360 (by decide)) (by decide))
  have bo : Bq o := (f2.mono le1).bq b2520 (up (sm 360 (by decide)) (by decide))
  have g1 := m_by_eq br br
  have g2 := m_by_eq bo bo
  have M2 : 360 * M * (360 * M) < 2 ^ 260 := mul_lt (sm 360 (by decide)) (sm 360 (by decide))
  have x1 : Fx (2520 * 2520) (360 * M * (360 * M)) (r * r) := (f1.mono le1).mul (f1.mono le1)
  have x2 : Fx (2520 * 2520) (360 * M * (360 * M)) (o * o) := (f2.mono le1).mul (f2.mono le1)
  have n2 : 2520 * 2520 < 2 ^ 24 := by decide
  have g3 := plus2 (by decide) (up n2 (by decide)) (up M2 (by decide)) x1 x2
  have bs : Bq (r * r + o * o) := (x1.add x2).bq ⟨by decide, up n2 (by decide)⟩ (by
    have : 360 * M * (360 * M) + 360 * M * (360 * M) < 2 ^ 261 := by omega
    exact up this (by decide))
  have q1 := m_by_eq bl bl
  have q2 := m_by_eq bt bt
  have q3 := m_below_eq bs bl2
  have q4 := m_below_eq bt2 bs
  have n1 : ¬ r * r + o * o < low ss * low ss := Rat.not_lt.mpr A.bot
  have n3 : ¬ tot ss * tot ss < r * r + o * o := Rat.not_lt.mpr A.top
  have e0 : PyData.tuple [.int 0, .int 1] = fr 0 := rfl
  have hf' : forL (pNm 5) wiB (ss.map sp) _ = _ := hf
  unfold wiB at hf'
  refine ⟨ys, ?_, B⟩
  simp only [m__law_is_within, runB, g__law_is_within, List.length_cons, List.length_nil, if_true]
  simp [startE, lim_is, e0, hf', g1, g2, g3, q1, q2, q3, q4, n1, n3]
end Fr

namespace Fr
open PySem Mv Sh

/-! ### what may be told: sizes of texts -/
mutual
/-- at most so many signs -/
def wide : D → Nat
  | .none => 4
  | .bool _ => 5
  | .int _ => 1921
  | .str _ => 400
  | .list xs => wides xs + 3
  | .tuple xs => wides xs + 3
  | .dict _ => 0
def wides : List D → Nat
  | [] => 0
  | x :: xs => wide x + 2 + wides xs
end
mutual
/-- no text, no dict; numbers that can be told -/
def plain : D → Prop
  | .none => True
  | .bool _ => True
  | .int i => i.natAbs.log2 < 1920
  | .str x => PyData.strOk x = true ∧ (PyData.str x).shown.length ≤ 400
  | .list xs => plains xs
  | .tuple xs => plains xs
  | .dict _ => False
def plains : List D → Prop
  | [] => True
  | x :: xs => plain x ∧ plains xs
end
mutual
theorem plain_ok : ∀ d : D, plain d → d.showable = true ∧ d.shown.length ≤ wide d ∧ d.canLay0 = true
  | .none, _ => ⟨by simp only [PyData.showable], by simp only [PyData.shown, wide]; decide, by simp only [PyData.canLay0]⟩
  | .bool b, _ => ⟨by simp only [PyData.showable], by simp only [PyData.shown, wide]; cases b <;> decide, by simp only [PyData.canLay0]⟩
  | .int i, h => by
    have h' : i.natAbs.log2 < 1920 := h
    refine ⟨by simp only [PyData.showable]; exact decide_eq_true h', ?_, by simp only [PyData.canLay0]⟩
    simp only [PyData.shown, wide]
    have e : (Str.ofString (toString i)).length = (toString i).length := ofString_length _
    have e2 := int_text_length_le (k := 1920) (by decide) h'
    show (Str.ofString (toString i)).length ≤ 1921
    omega
  | .str _, h => ⟨by simp only [PyData.showable], h.2, by simp only [PyData.canLay0]; exact h.1⟩
  | .list xs, h => by
    obtain ⟨h1, h2, h3, h4⟩ := plains_ok xs h
    refine ⟨by simpa only [PyData.showable] using h1, ?_, by simpa only [PyData.canLay0] using h3⟩
    simp only [PyData.shown, wide]
    have := listText_len_le (PyData.shownAll xs)
    omega
  | .tuple xs, h => by
    obtain ⟨h1, h2, h3, h4⟩ := plains_ok xs h
    refine ⟨by simpa only [PyData.showable] using h1, ?_, by simpa only [PyData.canLay0] using h3⟩
    simp only [PyData.shown, wide]
    have := tupleText_len_le (PyData.shownAll xs)
    omega
  | .dict _, h => h.elim
theorem plains_ok : ∀ ds : List D, plains ds → PyData.showableAll ds = true ∧ ((PyData.shownAll ds).map (·.length)).sum + 2 * (PyData.shownAll ds).length ≤ wides ds ∧ PyData.canLayAll0 ds = true ∧ True
  | [], _ => ⟨by simp only [PyData.showableAll], by simp [PyData.shownAll, wides], by simp only [PyData.canLayAll0], trivial⟩
  | d :: ds, h => by
    obtain ⟨a1, a2, a3⟩ := plain_ok d h.1
    obtain ⟨b1, b2, b3, _⟩ := plains_ok ds h.2
    refine ⟨by simp only [PyData.showableAll, a1, b1, Bool.and_self], ?_, by simp only [PyData.canLayAll0, a3, b3, Bool.and_self], trivial⟩
    simp only [PyData.shownAll, List.map_cons, List.sum_cons, List.length_cons, wides]
    omega
end
theorem tell_of {d : D} (h : plain d) (hw : wide d ≤ 1000000) (hd : d.depth ≤ 60) : Tell d := by
  obtain ⟨h1, h2, h3⟩ := plain_ok d h
  refine ⟨?_, h1, ?_, by omega, repB_of (noDict_lay h3)⟩
  · show (d.canLay0 && decide (d.depth ≤ 64)) = true
    rw [h3, decide_eq_true (by omega)]
    rfl
  · have : d.shown.length ≤ 1000000 := by omega
    exact this
theorem plains_of {ds : List D} (h : ∀ d ∈ ds, plain d) : plains ds := by
  induction ds with
  | nil => trivial
  | cons d ds ih => exact ⟨h d List.mem_cons_self, ih fun x hx => h x (List.mem_cons_of_mem _ hx)⟩
theorem wides_of {ds : List D} {k : Nat} (h : ∀ d ∈ ds, wide d ≤ k) : wides ds ≤ ds.length * (k + 2) := by
  induction ds with
  | nil => simp [wides]
  | cons d ds ih =>
    have h1 := h d List.mem_cons_self
    have h2 := ih fun x hx => h x (List.mem_cons_of_mem _ hx)
    rw [wides, List.length_cons, Nat.succ_mul]
    omega
theorem depths_of {ds : List D} {k : Nat} (h : ∀ d ∈ ds, d.depth ≤ k) : PyData.depthAll ds ≤ k := by
  induction ds with
  | nil => simp [PyData.depthAll]
  | cons d ds ih =>
    have h1 := h d List.mem_cons_self
    have h2 := ih fun x hx => h x (List.mem_cons_of_mem _ hx)
    simp only [PyData.depthAll]
    omega
/-- a fraction that can be told -/
def Tq (q : Rat) : Prop := q.num.natAbs < 2 ^ 1900 ∧ q.den < 2 ^ 1900
theorem Fx.tq {N M : Nat} {q : Rat} (h : Fx N M q) (hN : 0 < N ∧ N < 2 ^ 1900) (hM : M < 2 ^ 1900) : Tq q :=
  let ⟨h1, h2⟩ := h.num hN.1
  ⟨Nat.lt_of_le_of_lt h1 hM, Nat.lt_of_le_of_lt h2 hN.2⟩
theorem plain_fr {q : Rat} (h : Tq q) : plain (fr q) := by
  refine ⟨?_, ?_, trivial⟩
  · exact log2_lt (by decide) (up h.1 (by decide))
  · show ((q.den : Int)).natAbs.log2 < 1920
    rw [Int.natAbs_natCast]
    exact log2_lt (by decide) (up h.2 (by decide))
theorem wide_fr (q : Rat) : wide (fr q) = 3849 := rfl
theorem depth_fr (q : Rat) : (fr q).depth = 1 := by simp [fr, PyData.depth, PyData.depthAll]
theorem plain_sp {p : Rat × Rat} (h1 : Tq p.1) (h2 : Tq p.2) : plain (sp p) := ⟨plain_fr h1, plain_fr h2, trivial⟩
theorem wide_sp (p : Rat × Rat) : wide (sp p) = 7705 := rfl
theorem depth_sp (p : Rat × Rat) : (sp p).depth = 2 := by simp [sp, PyData.depth, PyData.depthAll, depth_fr]
theorem tell_pair {a b : Rat} (h1 : Tq a) (h2 : Tq b) : Tell (.tuple [fr a, fr b]) := tell_of (plain_sp (p := (a, b)) h1 h2) (by show (7705 : Nat) ≤ 1000000; decide) (by have := depth_sp (a, b); show (sp (a, b)).depth ≤ 60; omega)
theorem tell_none : Tell .none := tell_of trivial (by show (4 : Nat) ≤ 1000000; decide) (by simp [PyData.depth])
theorem tell_spans {ss : List (Rat × Rat)} (h : ∀ p ∈ ss, Tq p.1 ∧ Tq p.2) (hl : ss.length ≤ 100) : Tell (.tuple (ss.map sp)) := by
  refine tell_of (plains_of fun d hd => ?_) ?_ ?_
  · obtain ⟨p, hp, rfl⟩ := List.mem_map.mp hd
    exact plain_sp (h p hp).1 (h p hp).2
  · have := wides_of (ds := ss.map sp) (k := 7705) fun d hd => by
      obtain ⟨p, hp, rfl⟩ := List.mem_map.mp hd
      exact Nat.le_of_eq (wide_sp p)
    rw [List.length_map] at this
    have h2 : ss.length * (7705 + 2) ≤ 100 * (7705 + 2) := Nat.mul_le_mul_right _ hl
    show wides _ + 3 ≤ _
    omega
  · have := depths_of (ds := ss.map sp) (k := 2) fun d hd => by
      obtain ⟨p, hp, rfl⟩ := List.mem_map.mp hd
      exact Nat.le_of_eq (depth_sp p)
    simp only [PyData.depth]
    omega
theorem tell_told {ss : List (Rat × Rat)} (h : ∀ q ∈ amts ss, Tq q) (hl : ss.length ≤ 20) (h012 : ∀ x ∈ heapsF (sumQ (amts ss)) (amts ss) 0 0, x = 0 ∨ x = 1 ∨ x = 2) : Tell (told ss) := by
  have al : (amts ss).length = ss.length := by unfold amts; rw [List.length_map]
  have hh : (heapsF (sumQ (amts ss)) (amts ss) 0 0).length = ss.length := by rw [heaps_len, al]
  refine tell_of ⟨plains_of fun d hd => ?_, plains_of fun d hd => ?_, trivial⟩ ?_ ?_
  · obtain ⟨q, hq, rfl⟩ := List.mem_map.mp hd
    exact plain_fr (h q hq)
  · obtain ⟨x, hx, rfl⟩ := List.mem_map.mp hd
    show x.natAbs.log2 < 1920
    rcases h012 x hx with rfl | rfl | rfl <;> decide
  · have h1 := wides_of (ds := (amts ss).map fr) (k := 3849) fun d hd => by
      obtain ⟨p, hp, rfl⟩ := List.mem_map.mp hd
      exact Nat.le_of_eq (wide_fr p)
    have h2 := wides_of (ds := (heapsF (sumQ (amts ss)) (amts ss) 0 0).map PyData.int) (k := 1921) fun d hd => by
      obtain ⟨p, hp, rfl⟩ := List.mem_map.mp hd
      exact Nat.le_refl _
    rw [List.length_map, al] at h1
    rw [List.length_map, hh] at h2
    have h3 : ss.length * (3849 + 2) ≤ 20 * (3849 + 2) := Nat.mul_le_mul_right _ hl
    have h4 : ss.length * (1921 + 2) ≤ 20 * (1921 + 2) := Nat.mul_le_mul_right _ hl
    show (wides _ + 3 + 2 + (wides _ + 3 + 2 + 0)) + 3 ≤ _
    omega
  · have h1 := depths_of (ds := (amts ss).map fr) (k := 1) fun d hd => by
      obtain ⟨p, hp, rfl⟩ := List.mem_map.mp hd
      exact Nat.le_of_eq (depth_fr p)
    have h2 := depths_of (ds := (heapsF (sumQ (amts ss)) (amts ss) 0 0).map PyData.int) (k := 1) fun d hd => by
      obtain ⟨p, hp, rfl⟩ := List.mem_map.mp hd
      simp [PyData.depth]
    unfold told
    simp only [PyData.depth,
                                                                                                                  PyData.depthAll]
    omega
end Fr

namespace Fr
open PySem Mv Sh

theorem bag_ok {ns : List Int} (h : ns.length ≤ 63) : ∃ ys, m__law_bag [.list (ns.map PyData.int)] = some (.ret (.own false ys)) ∧ BagOk ys := by
  have hc : cutD (ns.map PyData.int) none (some 63) = ns.map PyData.int := by
    unfold cutD
    rw [HT.sIx_none, show HT.sIx (ns.map PyData.int).length (ns.map PyData.int).length (some 63) = min 63 (ns.map PyData.int).length from HT.sIx_nat _ _ 63]
    simp
    exact List.take_of_length_le (by simp; omega)
  have hl : ns.length ≤ 1000000 := by omega
  have h1 : lcL (pNm 1) bYes (vCb dAbs (vCons (vVar 1) (vNil))) [1] (ns.map PyData.int) [.val (.list (ns.map PyData.int)), .no] = .ok (ns.map fun n => .int (n.natAbs : Int)) [.val (.list (ns.map PyData.int)), .no] :=
    lcL_map PyData.int _ ns fun n _ => ⟨.val (.list (ns.map PyData.int)), [.val (.int n)], [.val (.list (ns.map PyData.int)), .val (.int n)], rfl, by simp, rfl⟩
  refine ⟨bagD 0 1234567891 0 (ns.map fun n => (n.natAbs : Int)), ?_, _, _, _, _, rfl, ⟨by decide, by decide, by decide, by decide, fun c hc => ?_, by rw [List.length_map]; exact h⟩⟩
  · have e : (ns.map fun n => (n.natAbs : Int)).map PyData.int = ns.map fun n => .int (n.natAbs : Int) := by rw [List.map_map]; rfl
    unfold bagD
    rw [e]
    simp only [m__law_bag, runM, g__law_bag, List.length_cons, List.length_nil, if_true]
    simp [startE, noOwn, wipeE, backE, lim_is, hc, hl, h1]
  · obtain ⟨n, _, rfl⟩ := List.mem_map.mp hc
    omega
theorem maxQ_le {x : Rat} : ∀ (rs : List Rat) (q : Rat), maxQ q rs ≤ x ↔ q ≤ x ∧ ∀ r ∈ rs, r ≤ x := fun rs q => by
  obtain ⟨h1, h2⟩ := maxQ_ge rs q
  refine ⟨fun h => ⟨Rat.le_trans h1 h, fun r hr => Rat.le_trans (h2 r hr) h⟩, fun ⟨a, b⟩ => ?_⟩
  rcases maxQ_mem rs q with e | e
  · rw [e]; exact a
  · exact b _ e
theorem closes_iff {ss : List (Rat × Rat)} {x : Rat} (h0 : 0 ≤ x) : closesB (ss ++ [(x, x)]) = true ↔ low ss ≤ x ∧ x ≤ tot ss := by
  unfold closesB
  rw [tot_app, List.all_eq_true]
  have hl : low ss ≤ x ↔ 0 ≤ x ∧ ∀ r ∈ ss.map (leftOf ss), r ≤ x := maxQ_le _ _
  rw [hl]
  constructor
  · intro h
    refine ⟨⟨h0, fun r hr => ?_⟩, ?_⟩
    · obtain ⟨p, hp, rfl⟩ := List.mem_map.mp hr
      have := of_decide_eq_true (h p (List.mem_append_left _ hp))
      unfold leftOf
      grind
    · have := of_decide_eq_true (h (x, x) (List.mem_append_right _ List.mem_cons_self))
      grind
  · rintro ⟨⟨_, h1⟩, h2⟩ p hp
    refine decide_eq_true ?_
    rcases List.mem_append.mp hp with
                                                                                                                  hp | hp
    · have := h1 _ (List.mem_map_of_mem (f := leftOf ss) hp)
      unfold leftOf at this
      grind
    · cases List.mem_singleton.mp hp
      grind
@[simp] theorem ne_bool (a b : Bool) : dNe (.bool a) (.bool b) = some (.val (.bool (a != b))) := by
  rw [dNe]
  · rw [if_pos ⟨shaped_bool a, shaped_bool b⟩]
    cases a <;> cases b <;> simp [PyData.eqv]
  · intro _ _ h; cases h
@[simp] theorem is_none : dIs .none .none = some (.val (.bool true)) := rfl
@[simp] theorem is_tup (ds : List D) : dIs (.tuple ds) .none = some (.val (.bool false)) := rfl
@[simp] theorem isnt_none : dIsnt .none .none = some (.val (.bool false)) := rfl
@[simp] theorem isnt_tup (ds : List D) : dIsnt (.tuple ds) .none = some (.val (.bool true)) := rfl
@[simp] theorem is_told (ss : List (Rat × Rat)) : dIs (told ss) .none = some (.val (.bool false)) := rfl
@[simp] theorem isnt_told (ss : List (Rat × Rat)) : dIsnt (told ss) .none = some (.val (.bool true)) := rfl
theorem fr_int (v : Int) : PyData.tuple [.int v, .int 1] = fr (v : Rat) := rfl
/-- the span, scaled -/
theorem span_scl {M : Nat} {p : Rat × Rat} (P : Span 6 M p) {q : Rat} (hq : q ∈ bys) : Span 420 (M * 10 ^ 31) (p.1 * q, p.2 * q) := by
  obtain ⟨h1, h2⟩ := bys_fx q hq
  have h3 := Rat.le_of_lt h2
  exact ⟨Rat.mul_nonneg P.lo h3, Rat.mul_le_mul_of_nonneg_right P.le h3, P.f1.mul h1, P.f2.mul h1⟩
/-- a size that may be asked -/
structure SizeOk (x : Rat) : Prop where
  nn : 0 ≤ x
  fx : Fx 840 (2 ^ 150) x
theorem spans2 {M : Nat} {ss : List (Rat × Rat)} (S : ∀ p ∈ ss, Span 420 M p) (hM : 2 * M < 2 ^ 150) (hl : ss.length ≤ 20) {x : Rat} (hx : SizeOk x) : Spans 840 (2 ^ 150) (ss ++ [(x, x)]) := by
  refine ⟨fun p hp => ?_, by rw [List.length_append, List.length_singleton]; omega, by decide, up (n := 840) (k := 10) (by decide) (by decide), Nat.pow_lt_pow_right (by decide) (by decide)⟩
  rcases List.mem_append.mp hp with
                                                                                                                hp | hp
  · have P := S p hp
    exact ⟨P.lo, P.le, (P.f1.fine 2 (by decide)).mono (by omega), (P.f2.fine 2 (by decide)).mono (by omega)⟩
  · cases List.mem_singleton.mp hp
    exact ⟨hx.nn, Rat.le_refl, hx.fx, hx.fx⟩
end Fr

namespace Fr
open PySem Mv Sh

/-! ### the least of a list -/
def minQ (q : Rat) : List Rat → Rat
  | [] => q
  | r :: rs => minQ (if r < q then r else q) rs
theorem least_loop (b : MS) (hb : b = sSet 1 (vIf (vB (vOp (dCmp fun i j => decide (i < j)) (vCall m_compared (vCons (vVar 2) (vCons (vVar 1) (vNil)))) (vC (.int 0)))) (vVar 2) (vVar 1))) :
    ∀ (rs : List Rat) (q : Rat) (s0 s2 : Sl), Bq q → (∀ r ∈ rs, Bq r) → ∃ t2, forL (pNm 2) b (rs.map fr) [s0, .val (fr q), s2] = .ok .nx [s0, .val (fr (minQ q rs)), t2]
  | [], q, s0, s2, _, _ => ⟨s2, rfl⟩
  | r :: rs, q, s0, s2, hq, hr => by
    have h1 := hr r List.mem_cons_self
    have hm : Bq (if r < q then r else q) := by split <;> assumption
    obtain ⟨t2, h⟩ := least_loop b hb rs (if r < q then r else q) s0 (.val (fr r)) hm fun x hx => hr x (List.mem_cons_of_mem _ hx)
    refine ⟨t2, ?_⟩
    rw [List.map_cons, forL_nx (e1 := [s0, .val (fr q), .val (fr r)]) (e2 := [s0, .val (fr (if r < q then r else q)), .val (fr r)]) rfl ?_, h, minQ]
    have hc := m_compared_eq h1 hq
    rw [hb]
    by_cases hlt : r < q
    · have : cmpI r q < 0 := (cmpI_lt r q).mpr hlt
      simp [hc, hlt, this]
    · have : ¬ cmpI r q < 0 := fun z => hlt ((cmpI_lt r q).mp z)
      simp [hc, hlt, this]
theorem cut_tail (q : Rat) (rs : List Rat) : cutD (fr q :: rs.map fr) (some 1) none = rs.map fr := by
  unfold cutD
  rw [show HT.sIx (fr q :: rs.map fr).length 0 (some 1) = min 1 (fr q :: rs.map fr).length from HT.sIx_nat _ 0 1, HT.sIx_none]
  simp
  exact List.take_of_length_le
                                                                                                                (by simp)
theorem m_least_eq {q : Rat} {rs : List Rat} (hq : Bq q) (hr : ∀ r ∈ rs, Bq r) : m_least_of [.list (fr q :: rs.map fr)] = some (.ret (.val (fr (minQ q rs)))) := by
  obtain ⟨t2, h⟩ := least_loop _ rfl rs q (.val (.list (fr q :: rs.map fr))) .no hq hr
  have hc := cut_tail q rs
  simp only [m_least_of, runM, g_least_of, List.length_cons, List.length_nil, if_true]
  simp [startE, hc, h]
/-! ### what is left of a span -/
theorem cut_take (xs : List D) {n : Nat} (h : n ≤ xs.length) : cutD xs none (some (n : Int)) = xs.take n := by
  unfold cutD
  rw [HT.sIx_none, show HT.sIx xs.length xs.length (some (n : Int)) = min n xs.length from HT.sIx_nat _ _ n, Nat.min_eq_left h]
  rfl
theorem cut_drop (xs : List D) {n : Nat} (h : n ≤ xs.length) : cutD xs (some (n : Int)) none = xs.drop n := by
  unfold cutD
  rw [HT.sIx_none, show HT.sIx xs.length 0 (some (n : Int)) = min n xs.length from HT.sIx_nat _ _ n, Nat.min_eq_left h]
  exact List.take_of_length_le (by rw [List.length_drop]; exact Nat.le_refl _)
def others (ss : List (Rat × Rat)) (k : Nat) : List (Rat × Rat) := ss.take k ++ ss.drop (k + 1)
theorem others_in {ss : List (Rat × Rat)} {k : Nat} : ∀ p ∈ others ss k, p ∈ ss := fun p hp => by
  rcases List.mem_append.mp hp with
                                                                                                                h | h
  · exact List.mem_of_mem_take h
  · exact List.mem_of_mem_drop h
theorem Spans.others {N M : Nat} {ss : List (Rat × Rat)} (S : Spans N M ss) (k : Nat) : Spans N M (Fr.others ss k) := by
  refine ⟨fun p hp => S.all p (others_in p hp), ?_, S.n0, S.n1, S.m1⟩
  unfold Fr.others
  rw [List.length_append, List.length_take, List.length_drop]
  have := S.len
  omega
theorem Spans.low {N M : Nat} {ss : List (Rat × Rat)} (S : Spans N M ss) : Fx N (102 * M) (Fr.low ss) := by
  rcases maxQ_mem (ss.map (leftOf ss)) 0 with e | e
  · have e : Fr.low ss = 0 := e
    rw [e]; exact Fx.zero
  · obtain ⟨p, hp, e⟩ := List.mem_map.mp e
    have e : leftOf ss p = Fr.low ss := e
    rw [← e]; exact (S.left hp).2
/-- both ends of what is left -/
def lefts (ss : List (Rat × Rat)) (k : Nat) (p : Rat × Rat) : Rat × Rat := (maxQ p.1 [low (others ss k)], minQ p.2 [tot (others ss k)])
def leftD (q : Rat × Rat) : D := if q.1 ≤ q.2 then sp q else .none
theorem m_span_left_eq {N M : Nat} {ss : List (Rat × Rat)} (S : Spans N M ss) {k : Nat} {p : Rat × Rat} (hk : ss[k]? = some p) : m_span_left [.tuple (ss.map sp), .int (k : Int)] = some (.ret (.val (leftD (lefts ss k p)))) := by
  have hlt : k < ss.length := (List.getElem?_eq_some_iff.mp hk).1
  have hp : p ∈ ss := List.mem_of_getElem? hk
  have So := S.others k
  have P := S.all p hp
  have r := m_reach_eq So
  have e1 : (others ss k).map sp = (ss.map sp).take k ++ (ss.map sp).drop (k + 1) := by
    unfold others
    rw [List.map_append, List.map_take, List.map_drop]
  rw [e1] at r
  have c1 := cut_take (ss.map sp) (n := k) (by rw [List.length_map]; omega)
  have c2 := cut_drop (ss.map sp) (n := k + 1) (by rw [List.length_map]; omega)
  have c2 : cutD (ss.map sp) (some ((k : Int) + 1)) none = _ := c2
  have ix : L2.atI (ss.map sp) (k : Int) = some (sp p) := by
    unfold L2.atI
    rw [ix_nat (by rw [List.length_map]; exact hlt)]
    show (ss.map sp)[k]? = _
    rw [List.getElem?_map, hk]
    rfl
  have bl := So.bq (by decide) So.low
  have bt := So.bq (by decide) So.fxTot
  have g := m_greatest_eq (q := p.1) (rs := [low (others ss k)]) (S.one P.f1) (fun r hr => by cases List.mem_singleton.mp hr; exact bl)
  have l := m_least_eq (q := p.2) (rs := [tot (others ss k)]) (S.one P.f2) (fun r hr => by cases List.mem_singleton.mp hr; exact bt)
  have g : m_greatest_of [.list [fr p.1, fr (low (others ss k))]] = some (.ret (.val (fr (lefts ss k p).1))) := g
  have l : m_least_of [.list [fr p.2, fr (tot (others ss k))]] = some (.ret (.val (fr (lefts ss k p).2))) := l
  have b1 : Bq (lefts ss k p).1 := by
    rcases maxQ_mem [low (others ss k)] p.1 with e | e
    · show Bq (maxQ _ _); rw [e]; exact S.one P.f1
    · show Bq (maxQ _ _); rw [List.mem_singleton.mp e]; exact bl
  have b2 : Bq (lefts ss k p).2 := by
    show Bq (if tot (others ss k) < p.2 then tot (others ss k) else p.2)
    split
    · exact bt
    · exact S.one P.f2
  have c := m_compared_eq b1 b2
  have hc := cmpI_le (lefts ss k p).1 (lefts ss k p).2
  have hl : min k ss.length + (ss.length - (k + 1)) ≤ 1000000 := by have := S.len; omega
  by_cases h : (lefts ss k p).1 ≤ (lefts ss k p).2
  · simp [m_span_left, g_span_left, runM, startE, c1, c2, lim_is, hl, r, ix, g, l, c, hc, h, leftD, sp]
  · simp [m_span_left, g_span_left, runM, startE, c1, c2, lim_is, hl, r, ix, g, l, c, hc, h, leftD, sp]
def leftAt (ss : List (Rat × Rat)) (k : Nat) : D := leftD (lefts ss k (ss.getD k (0, 0)))
def leftAll (ss : List (Rat × Rat)) : List D := (List.range ss.length).map (leftAt ss)
theorem lc_lefts {N M : Nat} {ss : List (Rat × Rat)} (S : Spans N M ss) : lcL (pNm 1) bYes (vCall m_span_left (vCons (vVar 0) (vCons (vVar 1) (vNil)))) [1] (rngD 0 ss.length) [.val (.tuple (ss.map sp)), .no] = .ok (leftAll ss) [.val (.tuple (ss.map sp)), .no] := by
  have e : rngD 0 ss.length = (List.range ss.length).map fun (k : Nat) => PyData.int (k : Int) := by
    unfold rngD
    exact List.map_congr_left fun (k : Nat) _ => by rw [Int.zero_add]
  rw [e]
  exact lcL_map (fun k : Nat => PyData.int (k : Int)) (leftAt ss) (List.range ss.length) fun k hk => by
    have hlt := List.mem_range.mp hk
    have h := m_span_left_eq S (k := k) (p := ss[k]) (List.getElem?_eq_getElem hlt)
    have e2 : leftAt ss k = leftD (lefts ss k ss[k]) := by
      unfold leftAt
      rw [List.getD_eq_getElem?_getD, List.getElem?_eq_getElem hlt]
      rfl
    rw [e2]
    exact ⟨.val (.tuple (ss.map sp)), [.val (.int (k : Int))], [.val (.tuple (ss.map sp)), .val (.int (k : Int))], rfl, by simp [h], rfl⟩
theorem m_spans_left_no {N M : Nat} {ss : List (Rat × Rat)} (S : Spans N M ss) (hc : closesB ss = false) : m_spans_left [.tuple (ss.map sp)] = some (.ret (.val .none)) := by
  have h1 := m_closes_eq S
  rw [hc] at h1
  simp [m_spans_left, g_spans_left, runM, startE, h1]
theorem m_spans_left_yes {N M : Nat} {ss : List (Rat × Rat)} (S : Spans N M ss) (hc : closesB ss = true) : m_spans_left [.tuple (ss.map sp)] = some (.ret (.val (.tuple (leftAll ss)))) := by
  have h1 := m_closes_eq S
  rw [hc] at h1
  have h2 := lc_lefts S
  have hl : ss.length ≤ 1000000 := by have := S.len; omega
  have rng : ∀ e, rngR [.int ((ss.length : Nat) : Int)] e = .ok (rngD 0 ss.length) e := rng_nat (by have := S.len; omega)
  have hr : (rngD 0 ss.length).length = ss.length := rng_len _ _
  simp only [m_spans_left, runM, g_spans_left, List.length_cons, List.length_nil, if_true]
  simp [startE, noOwn, wipeE, backE, lim_is, h1, h2, hl, rng, hr, dTuple]
end Fr

namespace Fr
open PySem Mv Sh

@[simp] theorem e_ins (g : M (List D)) (s : Sl) (es : List Sl) (i : Nat) : sIns i g (s :: es) = ownAt i (s :: es) fun _ _ => (g (s :: es)).bind fun ds e => ownAt i e fun b xs => match ds with
  | [.int k, d] => if xs.length < LIM ∧ 0 ≤ k ∧ k < 1000000000 then .ok .nx (e.set i (.own b (xs.take k.toNat ++ [d] ++ xs.drop k.toNat))) else .bad
  | _ => .bad := rfl
/-! ### things mixed -/
def mxB : MS := sIns 2 (vCons (vCallB 0 m__law_take (vCons (vOp dAdd (vLenv 2) (vC (.int 1))) (vNil))) (vCons (vVar 3) (vNil)))
def MxI (all : List D) (s1 : Sl) (rest : List D) (e : En) : Prop := ∃ (ys found : List D) (s3 : Sl), e = [.own true ys, s1, .own false found, s3] ∧ (found ++ rest).Perm all ∧ BagOk ys
theorem mixed_ok {xs : List D} (hb : BagOk xs) {ds : List D} {d0 : D} (h0 : d0 = .list ds ∨ d0 = .tuple ds) (hl : ds.length ≤ 1000) : ∃ zs ys, m__law_mixed xs [d0] = some (.ret (.own false zs), ys) ∧ zs.Perm ds ∧ BagOk ys := by
  obtain ⟨e', h, ys, zs, s3, rfl, P, B⟩ := for_inv (pat := pNm 3) (b := mxB) (MxI ds (.val d0)) (fun d rest e ⟨ys, found, a3, he, P, B⟩ => by
    subst he
    have len := P.length_eq
    rw [List.length_append, List.length_cons] at len
    obtain ⟨v, y2, e2, v0, v1, B2⟩ := take_ok B (many := (found.length : Int) + 1) (by omega) (by omega)
    have h1 : found.length < 1000000 := by omega
    have h2 : v < 1000000000 := by omega
    refine ⟨_, [.own true y2, .val d0, .own false (found.take v.toNat ++ [d] ++ found.drop v.toNat), .val d], rfl, ?_, y2, _, _, rfl, ?_, B2⟩
    · simp [mxB, lim_is, e2, h1, h2, v0]
    · refine List.Perm.trans ?_ P
      rw [List.append_assoc,
                                                                                                                    List.append_assoc]
      have e3 : found ++ d :: rest = found.take v.toNat ++ (found.drop v.toNat ++ (d :: rest)) := by rw [← List.append_assoc, List.take_append_drop]
      rw [e3]
      refine List.Perm.append_left (found.take v.toNat) ?_
      exact (List.perm_middle (a := d) (l₁ := found.drop v.toNat) (l₂ := rest)).symm) ds [.own true xs, .val d0, .own false [], .no] ⟨xs, [], .no, rfl, List.Perm.refl _, hb⟩
  rw [List.append_nil] at P
  have h : forL (pNm 3) mxB ds _ = _ := h
  unfold mxB at h
  refine ⟨zs, ys, ?_, P, B⟩
  simp only [m__law_mixed, runB, g__law_mixed, List.length_cons, List.length_nil, if_true]
  rcases h0 with rfl | rfl
  · simp [startE, h]
  · simp [startE, h]
/-! ### the law's own closing -/
theorem enum_zip (ss : List (Rat × Rat)) : enumD (ss.map sp) = ss.zipIdx.map fun x => PyData.tuple [.int (x.2 : Int), sp x.1] := by
  unfold enumD
  rw [List.mapIdx_eq_zipIdx_map, List.zipIdx_map, List.map_map]
  rfl
theorem sum_but : ∀ (ss : List (Rat × Rat)) (j k : Nat) (p : Rat × Rat), ss[k]? = some p → sumQ (((ss.zipIdx j).filter fun x => !decide (x.2 = j + k)).map fun x => x.1.2) = tot ss - p.2
  | [], j, k, p, h => by simp at h
  | q :: ss, j, 0, p, h => by
    cases h
    rw [List.zipIdx_cons, List.filter_cons_of_neg (by simp)]
    have all : ∀ x ∈ ss.zipIdx (j + 1), (!decide (x.2 = j + 0)) = true := fun x hx => by
      have := List.le_snd_of_mem_zipIdx hx
      simp
      omega
    rw [List.filter_eq_self.mpr all]
    have e : (ss.zipIdx (j + 1)).map (fun x => x.1.2) = ss.map (·.2) := by
      have := List.zipIdx_map_fst (j + 1) ss
      rw [show (fun x : (Rat × Rat) × Nat => x.1.2) = (fun p : Rat × Rat => p.2) ∘ Prod.fst from rfl, ← List.map_map, this]
    rw [e]
    unfold tot
    rw [List.map_cons, sumQ]
    grind
  | q :: ss, j, k + 1, p, h => by
    have ih := sum_but ss (j + 1) k p (by simpa using h)
    rw [List.zipIdx_cons, List.filter_cons_of_pos (by simp), List.map_cons, sumQ, show j + (k + 1) = j + 1 + k by omega, ih]
    unfold tot
    rw [List.map_cons, sumQ]
    grind
def numD (x : (Rat × Rat) × Nat) : D := .tuple [.int (x.2 : Int), sp x.1]
theorem lc_others (ss : List (Rat × Rat)) (k : Nat) (s0 s2 s3 : Sl) : lcL (pTup (pCons (pNm 4) (pCons (pNm 5) (pNil)))) (vB (vOp dNe (vVar 4) (vVar 1))) (vIxv 5 (vC (.int 1))) [4, 5] (ss.zipIdx.map numD) [s0, .val (.int (k : Int)), s2, s3, .no, .no] =
    .ok ((ss.zipIdx.filter fun x => !decide (x.2 = k)).map fun x => fr x.1.2) [s0, .val (.int (k : Int)), s2, s3, .no, .no] :=
  lcL_filter numD (fun x => !decide (x.2 = k)) _ _ fun x _ =>
    ⟨s0, [.val (.int (k : Int)), s2, s3, .val (.int (x.2 : Int)), .val (sp x.1)], [s0, .val (.int (k : Int)), s2, s3, .val (.int (x.2 : Int)), .val (sp x.1)], [s0, .val (.int (k : Int)), s2, s3, .val (.int (x.2 : Int)), .val (sp x.1)], rfl, by simp [Int.ofNat_inj], fun _ => ⟨by simp, rfl⟩, fun _ => rfl⟩
def clB : MS := sSeq (sSet 3 (vCall m__law_plus (vCons (vLc (vEnum (vCons (vVar 0) (vNil))) (pTup (pCons (pNm 4) (pCons (pNm 5) (pNil)))) (vB (vOp dNe (vVar 4) (vVar 1))) (vIxv 5 (vC (.int 1))) [4, 5]) (vNil)))) (sIf (vB (vCall m__law_below (vCons (vVar 3) (vCons (vIxv 2 (vC (.int 0))) (vNil))))) (sRet (vC (.bool false))) (sNil))
theorem cl_loop {N M : Nat} {ss : List (Rat × Rat)} (S : Spans N M ss) (hl : ss.length ≤ 20) : ∀ (l : List ((Rat × Rat) × Nat)) (s1 s2 s3 : Sl), (∀ x ∈ l, ss[x.2]? = some x.1) →
    ∃ e', forL (pTup (pCons (pNm 1) (pCons (pNm 2) (pNil)))) clB (l.map numD) [.val (.tuple (ss.map sp)), s1, s2, s3, .no, .no] = .ok (if l.all (fun x => decide (x.1.1 ≤ tot ss - x.1.2)) = true then Fl.nx else Fl.rt (.val (.bool false))) e'
  | [], s1, s2, s3, _ => ⟨_, rfl⟩
  | x :: l, s1, s2, s3, h => by
    have hx := h x List.mem_cons_self
    have hp : x.1 ∈ ss := List.mem_of_getElem? hx
    have P := S.all _ hp
    have h1 := lc_others ss x.2 (.val (.tuple (ss.map sp))) (.val (sp x.1)) s3
    have hz : enumD (ss.map sp) = ss.zipIdx.map numD := enum_zip ss
    have hf : ∀ q ∈ ((ss.zipIdx.filter fun y => !decide (y.2 = x.2)).map fun y => y.1.2), Fx N M q := fun q hq => by
      obtain ⟨y, hy, rfl⟩ := List.mem_map.mp hq
      have hy := (List.mem_filter.mp hy).1
      have : y.1 ∈ ss := (List.mem_zipIdx (x := y.1) (i := y.2) hy).2.2 ▸ List.getElem_mem _
      exact (S.all _ this).f2
    have hlen := List.length_filter_le (fun y : (Rat × Rat) × Nat => !decide (y.2 = x.2)) ss.zipIdx
    rw [List.length_zipIdx] at hlen
    have h2 := plus_few S.sz (qs := (ss.zipIdx.filter fun y => !decide (y.2 = x.2)).map fun y => y.1.2) (.inl rfl) hf (by rw [List.length_map]; omega)
    have hs := sum_but ss 0 x.2 x.1 hx
    simp only [Nat.zero_add] at hs
    rw [hs, List.map_map] at h2
    have h2 : m__law_plus [.list ((ss.zipIdx.filter fun y => !decide (y.2 = x.2)).map fun y => fr y.1.2)] = some (.ret (.val (fr (tot ss - x.1.2)))) := h2
    have b := m_below_eq (S.bq (by decide) (S.left hp).1) (S.one P.f1)
    have hl6 : ss.length ≤ 1000000 := by omega
    by_cases hc : x.1.1 ≤ tot ss - x.1.2
    · obtain ⟨e', ih⟩ := cl_loop S hl l (.val (.int (x.2 : Int))) (.val (sp x.1)) (.val (fr (tot ss - x.1.2))) fun y hy => h y (List.mem_cons_of_mem _ hy)
      have n1 : ¬ tot ss - x.1.2 < x.1.1 := Rat.not_lt.mpr hc
      refine ⟨e', ?_⟩
      rw [List.map_cons, forL_nx (e1 := [.val (.tuple (ss.map sp)), .val (.int (x.2 : Int)), .val (sp x.1), s3, .no, .no]) (e2 := [.val (.tuple (ss.map sp)), .val (.int (x.2 : Int)), .val (sp x.1), .val (fr (tot ss - x.1.2)), .no, .no]) rfl ?_, ih]
      · rw [List.all_cons, decide_eq_true hc, Bool.true_and]
      · simp [clB, noOwn, wipeE, backE, lim_is, hz, h1, hl6, h2, b, n1]
    · have n1 : tot ss - x.1.2 < x.1.1 := Rat.not_le.mp hc
      refine ⟨[.val (.tuple (ss.map sp)), .val (.int (x.2 : Int)), .val (sp x.1), .val (fr (tot ss - x.1.2)), .no, .no], ?_⟩
      have hb : clB [.val (.tuple (ss.map sp)), .val (.int (x.2 : Int)), .val (sp x.1), s3, .no, .no] = .ok (.rt (.val (.bool false))) [.val (.tuple (ss.map sp)), .val (.int (x.2 : Int)), .val (sp x.1), .val (fr (tot ss - x.1.2)), .no, .no] := by
        simp [clB, noOwn, wipeE, backE, lim_is, hz, h1, hl6, h2, b, n1]
      have hp1 : pTup (pCons (pNm 1) (pCons (pNm 2) (pNil))) (numD x) [.val (.tuple (ss.map sp)), s1, s2, s3, .no, .no] = some [.val (.tuple (ss.map sp)), .val (.int (x.2 : Int)), .val (sp x.1), s3, .no, .no] := rfl
      rw [List.map_cons, forL, hp1]
      dsimp only
      rw [hb, List.all_cons, decide_eq_false hc, Bool.false_and]
      rfl
theorem all_zip (ss : List (Rat × Rat)) (f : Rat × Rat → Bool) : (ss.zipIdx.all fun x => f x.1) = ss.all f := by
  have := List.zipIdx_map_fst 0 ss
  conv => rhs; rw [← this]
  rw [List.all_map]
  rfl
theorem m_law_closes_eq {N M : Nat} {ss : List (Rat × Rat)} (S : Spans N M ss) (hl : ss.length ≤ 20) : m__law_closes [.tuple (ss.map sp)] = some (.ret (.val (.bool (closesB ss)))) := by
  obtain ⟨e', h⟩ := cl_loop S hl ss.zipIdx .no .no .no (fun x hx => by
    obtain ⟨p, i⟩ := x
    exact List.mk_mem_zipIdx_iff_getElem?.mp hx)
  rw [all_zip ss (fun p => decide (p.1 ≤ tot ss - p.2))] at h
  have hz : enumD (ss.map sp) = ss.zipIdx.map numD := enum_zip ss
  have h : forL (pTup (pCons (pNm 1) (pCons (pNm 2) (pNil)))) clB (ss.zipIdx.map numD) [.val (.tuple (ss.map sp)), .no, .no, .no, .no, .no] = .ok (if closesB ss = true then Fl.nx else Fl.rt (.val (.bool false))) e' := h
  unfold clB at h
  simp only [m__law_closes, runM, g__law_closes, List.length_cons, List.length_nil, if_true]
  cases hc : closesB ss with
  | true =>
    rw [hc, if_pos rfl] at h
    simp [startE, hz, h]
    rfl
  | false =>
    rw [hc, if_neg (fun z => Bool.false_ne_true z)] at h
    simp [startE, hz, h]
    rfl
end Fr

namespace Fr
open PySem Mv Sh

theorem m_with_span_eq {ss : List (Rat × Rat)} (hl : ss.length ≤ 1000) {k : Nat} (hk : k < ss.length) (a : Rat) : m__law_with_span [.tuple (ss.map sp), .int (k : Int), fr a] = some (.ret (.val (.tuple ((ss.take k ++ [(a, a)] ++ ss.drop (k + 1)).map sp)))) := by
  have c1 := cut_take (ss.map sp) (n := k) (by rw [List.length_map]; omega)
  have c2 := cut_drop (ss.map sp) (n := k + 1) (by rw [List.length_map]; omega)
  have c2 : cutD (ss.map sp) (some ((k : Int) + 1)) none = _ := c2
  have h1 : min k ss.length + 1 ≤ 1000000 := by omega
  have h2 : min k ss.length + (ss.length - (k + 1)) + 1 ≤ 1000000 := by omega
  have h3 : min k ss.length + 1 + (ss.length - (k + 1)) ≤ 1000000 := by omega
  have h4 : min k ss.length + (1 + (ss.length - (k + 1))) ≤ 1000000 := by omega
  have h5 : min k ss.length + (ss.length - (k + 1) + 1) ≤ 1000000 := by omega
  simp [m__law_with_span, g__law_with_span, runM, startE, c1, c2, lim_is, h1, h2, h3, h4, h5, sp]
def isB : MS := sSeq (sIf (bOr (bNot (vB (vUn (isiD "tuple") (vVar 1)))) (bOr (vB (vOp dNe (vLenv 1) (vC (.int 2)))) (bOr (bNot (vB (vCall m__law_is_fraction (vCons (vIxv 1 (vC (.int 0))) (vNil))))) (bNot (vB (vCall m__law_is_fraction (vCons (vIxv 1 (vC (.int 1))) (vNil)))))))) (sRet (vC (.bool false))) (sNil)) (sIf (bOr (vB (vOp (dCmp fun i j => decide (i < j)) (vOp dIx (vIxv 1 (vC (.int 0))) (vC (.int 0))) (vC (.int 0)))) (vB (vCall m__law_below (vCons (vIxv 1 (vC (.int 1))) (vCons (vIxv 1 (vC (.int 0))) (vNil)))))) (sRet (vC (.bool false))) (sNil))
@[simp] theorem isi_sp (p : Rat × Rat) : isiD "tuple" (sp p) = some (.val (.bool true)) := isi_tt _
theorem is_spans_eq {ps : List (Rat × Rat)} (h : ∀ p ∈ ps, 0 ≤ p.1 ∧ p.1 ≤ p.2 ∧ Bq p.1 ∧ Bq p.2) : m__law_is_spans [.tuple (ps.map sp)] = some (.ret (.val (.bool true))) := by
  obtain ⟨e', w, _, s1, _, _, rfl⟩ := for_inv (pat := pNm 1) (b := isB) (fun ds e => ∃ (qs : List (Rat × Rat)) (s1 : Sl), ds = qs.map sp ∧ (∀ p ∈ qs, p ∈ ps) ∧ e = [.val (.tuple (ps.map sp)), s1]) (fun d ds e ⟨qs, a1, hd, hq, he⟩ => by
    cases qs with
    | nil => cases hd
    | cons q qs =>
      rw [List.map_cons, List.cons.injEq] at hd
      obtain ⟨rfl, rfl⟩ := hd
      subst he
      obtain ⟨h0, h1, b1, b2⟩ := h q (hq q List.mem_cons_self)
      have f1 := m_fraction_fr q.1
      have f2 := m_fraction_fr q.2
      have g := m_below_eq b2 b1
      have n1 : ¬ q.2 < q.1 := Rat.not_lt.mpr h1
      have n2 : ¬ q.1.num < 0 := by
        have := Rat.num_nonneg.mpr h0
        omega
      exact ⟨_, [.val (.tuple (ps.map sp)), .val (sp q)], rfl, by simp [isB, f1, f2, g, n1, n2], qs, _, rfl, fun p hp => hq p (List.mem_cons_of_mem _ hp), rfl⟩) (ps.map sp) _ ⟨ps, .no, rfl, fun _ hp => hp, rfl⟩
  unfold isB at w
  simp only [m__law_is_spans, runM, g__law_is_spans, List.length_cons, List.length_nil, if_true]
  simp [startE, w]
end Fr

namespace Fr
open PySem Mv Sh

/-! ### amounts that close -/
theorem sumQ_perm {xs ys : List Rat} (h : xs.Perm ys) : sumQ xs = sumQ ys := by
  induction h with
  | nil => rfl
  | cons x _ ih => rw [sumQ, sumQ, ih]
  | swap x y l => simp only [sumQ]; grind
  | trans _ _ a b => exact a.trans b
theorem tot_perm {xs ys : List (Rat × Rat)} (h : xs.Perm ys) : tot xs = tot ys := sumQ_perm (h.map _)
theorem closesB_perm {xs ys : List (Rat × Rat)} (h : xs.Perm ys) : closesB xs = closesB ys := by
  unfold closesB
  rw [h.all_eq, tot_perm h]
structure Cl (ss : List (Rat × Rat)) (xs : List Rat) : Prop where
  len : xs.length = ss.length
  mid : ∀ (k : Nat) p x, ss[k]? = some p → xs[k]? = some x → p.1 ≤ x ∧ x ≤ p.2
  sml : ∀ x ∈ xs, x ≤ sumQ xs - x
theorem rest_ge : ∀ {ss : List (Rat × Rat)} {xs : List Rat}, xs.length = ss.length → (∀ (k : Nat) p x, ss[k]? = some p → xs[k]? = some x → x ≤ p.2) → sumQ xs ≤ tot ss ∧ ∀ (k : Nat) p x, ss[k]? = some p → xs[k]? = some x → sumQ xs - x ≤ tot ss - p.2
  | [], [], _, _ => ⟨by unfold tot; exact Rat.le_refl, fun k p x h => by simp at h⟩
  | [], _ :: _, h,
                                                                                                                _ => by cases h
  | _ :: _, [], h,
                                                                                                                _ => by cases h
  | p :: ss, x :: xs, h, hm => by
    obtain ⟨h1, h2⟩ := rest_ge (ss := ss) (xs := xs) (by simpa using h) fun k q y a b => hm (k + 1) q y (by simpa using a) (by simpa using b)
    have h0 := hm 0 p x rfl rfl
    have e : tot (p :: ss) = p.2 + tot ss := rfl
    refine ⟨by rw [e, sumQ]; grind, fun k q y a b => ?_⟩
    rw [e, sumQ]
    cases k with
    | zero =>
      simp at a b
      subst a; subst b
      grind
    | succ k =>
      have := h2 k q y (by simpa using a) (by simpa using b)
      grind
theorem Cl.closes {ss : List (Rat × Rat)} {xs : List Rat} (h : Cl ss xs) : closesB ss = true := by
  unfold closesB
  rw [List.all_eq_true]
  intro p hp
  obtain ⟨k, hk⟩ := List.mem_iff_getElem?.mp hp
  have hlt : k < xs.length := by
    rw [h.len]
    exact (List.getElem?_eq_some_iff.mp hk).1
  have hx := List.getElem?_eq_getElem hlt
  have h1 := h.mid k p _ hk hx
  have h2 := h.sml _ (List.getElem_mem hlt)
  have h3 := (rest_ge h.len fun k p x a b => (h.mid k p x a b).2).2 k p _ hk hx
  rw [decide_eq_true_eq]
  exact Rat.le_trans h1.1 (Rat.le_trans h2 h3)
theorem cl_amts {N M : Nat} {ss : List (Rat × Rat)} (S : Spans N M ss) (hc : closesB ss = true) : Cl ss (amts ss) := by
  refine ⟨by unfold amts; rw [List.length_map], fun k p x a b => ?_, fun x hx => ?_⟩
  · unfold amts at b
    rw [List.getElem?_map, a] at b
    cases b
    exact closes_in S hc (List.mem_of_getElem? a)
  · have := of_decide_eq_true (List.all_eq_true.mp (closes_small S) x hx)
    grind
/-! ### one span otherwise -/
theorem others_perm : ∀ {ss : List (Rat × Rat)} {k : Nat} {p : Rat × Rat}, ss[k]? = some p → ss.Perm (others ss k ++ [p])
  | [], k, p, h => by simp at h
  | q :: ss, 0, p, h => by
    cases h
    exact (List.perm_append_singleton _ _).symm
  | q :: ss, k + 1, p, h => by
    have := others_perm (ss := ss) (k := k) (p := p) (by simpa using h)
    have e : others (q :: ss) (k + 1) = q :: others ss k := rfl
    rw [e]
    exact this.cons q
theorem others_set (ss : List (Rat × Rat)) (k : Nat) (p : Rat × Rat) : others (ss.set k p) k = others ss k := by
  unfold others
  rw [List.take_set_of_le (Nat.le_refl _), List.drop_set_of_lt (Nat.lt_succ_self _)]
theorem set_perm {ss : List (Rat × Rat)} {k : Nat} (hk : k < ss.length) (p : Rat × Rat) : (ss.set k p).Perm (others ss k ++ [p]) := by
  have := others_perm (ss := ss.set k p) (k := k) (p := p) (by rw [List.getElem?_set_self hk])
  rwa [others_set] at this
theorem put_perm {ss : List (Rat × Rat)} {k : Nat} (hk : k < ss.length) (p : Rat × Rat) : ss.take k ++ [p] ++ ss.drop (k + 1) = ss.set k p := by
  rw [List.set_eq_take_append_cons_drop, if_pos hk, List.append_assoc]
  rfl
theorem set_iff {ss : List (Rat × Rat)} {k : Nat} (hk : k < ss.length) {a : Rat} (h0 : 0 ≤ a) : closesB (ss.set k (a, a)) = true ↔ low (others ss k) ≤ a ∧ a ≤ tot (others ss k) := by
  rw [closesB_perm (set_perm hk (a, a))]
  exact closes_iff h0
theorem cl_set {ss : List (Rat × Rat)} {k : Nat} {p : Rat × Rat} (hk : ss[k]? = some p) {a : Rat} (h : p.1 ≤ a ∧ a ≤ p.2) {xs : List Rat} (c : Cl (ss.set k (a, a)) xs) : Cl ss xs ∧ xs[k]? = some a := by
  have hlt := (List.getElem?_eq_some_iff.mp hk).1
  have hx : xs[k]? = some a := by
    have h1 : k < xs.length := by rw [c.len, List.length_set]; exact hlt
    have := c.mid k (a, a) _ (by rw [List.getElem?_set_self hlt]) (List.getElem?_eq_getElem h1)
    rw [List.getElem?_eq_getElem h1]
    congr 1
    exact Rat.le_antisymm this.2 this.1
  refine ⟨⟨by rw [c.len, List.length_set], fun j q x e1 e2 => ?_, c.sml⟩, hx⟩
  by_cases hj : k = j
  · subst hj
    rw [hk] at e1; rw [hx] at e2
    cases e1; cases e2
    exact h
  · exact c.mid j q x (by rw [List.getElem?_set_ne hj]; exact e1) e2
theorem cl_put {ss : List (Rat × Rat)} {k : Nat} {xs : List Rat} (c : Cl ss xs) {a : Rat} (h : xs[k]? = some a) : Cl (ss.set k (a, a)) xs := by
  refine ⟨by rw [List.length_set]; exact c.len, fun j q x e1 e2 => ?_, c.sml⟩
  by_cases hj : k = j
  · subst hj
    rw [h] at e2
    cases e2
    have hlt : k < ss.length := by rw [← c.len]; exact (List.getElem?_eq_some_iff.mp h).1
    rw [List.getElem?_set_self hlt] at e1
    cases e1
    exact ⟨Rat.le_refl, Rat.le_refl⟩
  · rw [List.getElem?_set_ne hj] at e1
    exact c.mid j q x e1 e2
theorem maxQ_one (a b x : Rat) : maxQ a [b] ≤ x ↔ a ≤ x ∧ b ≤ x := by
  rw [maxQ_le]
  simp
theorem minQ_one (a b x : Rat) : x ≤ minQ a [b] ↔ x ≤ a ∧ x ≤ b := by
  show x ≤ (if b < a then b else a) ↔ _
  split <;> grind
theorem Spans.one_else {N M : Nat} {ss : List (Rat × Rat)} (S : Spans N M ss) {k : Nat} {N' M' : Nat} {a : Rat} (h0 : 0 ≤ a) (ha : Fx N' M' a) (hN : ∃ j, 0 < j ∧ N' = N * j ∧ M * j ≤ M') (n1 : N' < 2 ^ 200) (m1 : M' < 2 ^ 200) : Spans N' M' (ss.set k (a, a)) := by
  obtain ⟨j, j0, rfl, hM⟩ := hN
  refine ⟨fun q hq => ?_, by rw [List.length_set]; exact S.len, Nat.mul_pos S.n0 j0, n1, m1⟩
  rcases List.mem_or_eq_of_mem_set hq with h | rfl
  · have P := S.all q h
    exact ⟨P.lo, P.le, (P.f1.fine j j0).mono hM, (P.f2.fine j j0).mono hM⟩
  · exact ⟨h0, Rat.le_refl, ha, ha⟩
section
variable {N M : Nat} {ss : List (Rat × Rat)} {k : Nat} {p : Rat × Rat}
theorem Spans.big (S : Spans N M ss) (hM : 102 * M < 2 ^ 200) : Spans N (102 * M) ss :=
  ⟨fun q hq => ⟨(S.all q hq).lo, (S.all q hq).le, (S.all q hq).f1.mono (by omega), (S.all q hq).f2.mono (by omega)⟩, S.len, S.n0, S.n1, hM⟩
theorem Spans.lef (S : Spans N M ss) (hk : ss[k]? = some p) : Fx N (102 * M) (lefts ss k p).1 ∧ Fx N (102 * M) (lefts ss k p).2 ∧ p.1 ≤ (lefts ss k p).1 ∧ (lefts ss k p).2 ≤ p.2 := by
  have P := S.all p (List.mem_of_getElem? hk)
  have So := S.others k
  refine ⟨?_, ?_, ((maxQ_one _ _ _).mp Rat.le_refl).1, ((minQ_one _ _ _).mp Rat.le_refl).1⟩
  · show Fx N (102 * M) (if p.1 < Fr.low (Fr.others ss k) then Fr.low (Fr.others ss k) else p.1)
    split
    · exact So.low
    · exact P.f1.mono (by omega)
  · show Fx N (102 * M) (if Fr.tot (Fr.others ss k) < p.2 then Fr.tot (Fr.others ss k) else p.2)
    split
    · exact So.fxTot.mono (by omega)
    · exact P.f2.mono (by omega)
theorem in_left {a : Rat} : (lefts ss k p).1 ≤ a ∧ a ≤ (lefts ss k p).2 ↔ (p.1 ≤ a ∧ a ≤ p.2) ∧ low (others ss k) ≤ a ∧ a ≤ tot (others ss k) := by
  show maxQ _ _ ≤ a ∧ a ≤ minQ _ _ ↔ _
  rw [maxQ_one, minQ_one]
  constructor
  · rintro ⟨⟨h1, h2⟩, h3, h4⟩
    exact ⟨⟨h1, h3⟩, h2, h4⟩
  · rintro ⟨⟨h1, h3⟩, h2, h4⟩
    exact ⟨⟨h1, h2⟩, h3, h4⟩
/-- an amount of a span closes just between both ends -/
theorem left_iff (S : Spans N M ss) (hk : ss[k]? = some p) {a : Rat} (h : p.1 ≤ a ∧ a ≤ p.2) : closesB (ss.set k (a, a)) = true ↔ (lefts ss k p).1 ≤ a ∧ a ≤ (lefts ss k p).2 := by
  have P := S.all p (List.mem_of_getElem? hk)
  rw [set_iff (List.getElem?_eq_some_iff.mp hk).1 (Rat.le_trans P.lo h.1), in_left]
  exact ⟨fun q => ⟨h, q⟩, fun q => q.2⟩
theorem cl_left (S : Spans N M ss) {xs : List Rat} (c : Cl ss xs) (hk : ss[k]? = some p) {a : Rat} (h : xs[k]? = some a) : (lefts ss k p).1 ≤ a ∧ a ≤ (lefts ss k p).2 :=
  (left_iff S hk (c.mid k p a hk h)).mp (cl_put c h).closes
theorem left_yes (S : Spans N M ss) (hk : ss[k]? = some p) (hc : closesB ss = true) : (lefts ss k p).1 ≤ (lefts ss k p).2 := by
  have c := cl_amts S hc
  have hlt := (List.getElem?_eq_some_iff.mp hk).1
  have hx := List.getElem?_eq_getElem (l := amts ss) (i := k) (by rw [c.len]; exact hlt)
  have := cl_left S c hk hx
  exact Rat.le_trans this.1 this.2
theorem left_cl (S : Spans N M ss) (hM : 102 * M < 2 ^ 200) (hk : ss[k]? = some p) {a : Rat} (ha : Fx N (102 * M) a) (h : (lefts ss k p).1 ≤ a ∧ a ≤ (lefts ss k p).2) : ∃ xs, Cl ss xs ∧ xs[k]? = some a := by
  have hp := (in_left.mp h).1
  have h0 : 0 ≤ a := Rat.le_trans (S.all p (List.mem_of_getElem? hk)).lo hp.1
  have hc := (left_iff S hk hp).mpr h
  have S2 := S.one_else (k := k) (N' := N) (M' := 102 * M) h0 ha ⟨1, by decide, by omega, by omega⟩ S.n1 hM
  exact ⟨_, cl_set hk hp (cl_amts S2 hc)⟩
theorem left_no (S : Spans N M ss) (hM : 102 * M < 2 ^ 200) (hk : ss[k]? = some p) (hc : closesB ss = false) : ¬ (lefts ss k p).1 ≤ (lefts ss k p).2 := fun h => by
  obtain ⟨xs, c, _⟩ := left_cl S hM hk (S.lef hk).1 ⟨Rat.le_refl, h⟩
  rw [c.closes] at hc
  cases hc
/-- what is left of all spans -/
def leftS (ss : List (Rat × Rat)) : List (Rat × Rat) := (List.range ss.length).map fun k => lefts ss k (ss.getD k (0, 0))
theorem leftS_get (hk : ss[k]? = some p) : (leftS ss)[k]? = some (lefts ss k p) := by
  have hlt := (List.getElem?_eq_some_iff.mp hk).1
  unfold leftS
  rw [List.getElem?_map, List.getElem?_range hlt, Option.map_some, List.getD_eq_getElem?_getD, hk]
  rfl
theorem leftS_len (ss : List (Rat × Rat)) : (leftS ss).length = ss.length := by unfold leftS; rw [List.length_map, List.length_range]
theorem leftS_mem {q : Rat × Rat} (hq : q ∈ leftS ss) : ∃ k p, ss[k]? = some p ∧ q = lefts ss k p := by
  obtain ⟨k, hk, rfl⟩ := List.mem_map.mp hq
  have hlt := List.mem_range.mp hk
  refine ⟨k, ss[k], List.getElem?_eq_getElem hlt, ?_⟩
  rw [List.getD_eq_getElem?_getD, List.getElem?_eq_getElem hlt]
  rfl
theorem leftAll_yes (S : Spans N M ss) (hc : closesB ss = true) : leftAll ss = (leftS ss).map sp := by
  unfold leftAll leftS
  rw [List.map_map]
  refine List.map_congr_left fun k hk => ?_
  have hlt := List.mem_range.mp hk
  have hg := List.getElem?_eq_getElem hlt
  show leftAt ss k = sp (lefts ss k (ss.getD k (0, 0)))
  unfold leftAt leftD
  rw [List.getD_eq_getElem?_getD, hg]
  exact if_pos (left_yes S hg hc)
theorem leftAll_no (S : Spans N M ss) (hM : 102 * M < 2 ^ 200) (hc : closesB ss = false) : leftAll ss = List.replicate ss.length .none := by
  refine List.eq_replicate_iff.mpr ⟨by unfold leftAll; rw [List.length_map, List.length_range], fun d hd => ?_⟩
  obtain ⟨k, hk, rfl⟩ := List.mem_map.mp hd
  have hg := List.getElem?_eq_getElem (List.mem_range.mp hk)
  unfold leftAt leftD
  rw [List.getD_eq_getElem?_getD, hg]
  exact if_neg (left_no S hM hg hc)
theorem Spans.leftS (S : Spans N M ss) (hM : 102 * M < 2 ^ 200) (hc : closesB ss = true) : Spans N (102 * M) (Fr.leftS ss) := by
  refine ⟨fun q hq => ?_, by rw [leftS_len]; exact S.len, S.n0, S.n1, hM⟩
  obtain ⟨k, p, hk, rfl⟩ := leftS_mem hq
  obtain ⟨f1, f2, h1, h2⟩ := S.lef hk
  exact ⟨Rat.le_trans (S.all p (List.mem_of_getElem? hk)).lo h1, left_yes S hk hc, f1, f2⟩
theorem cl_in_left (S : Spans N M ss) {xs : List Rat} (c : Cl ss xs) : Cl (Fr.leftS ss) xs := by
  refine ⟨by rw [leftS_len]; exact c.len, fun k q x e1 e2 => ?_, c.sml⟩
  have hlt : k < ss.length := by rw [← leftS_len ss]; exact (List.getElem?_eq_some_iff.mp e1).1
  have hg := List.getElem?_eq_getElem hlt
  rw [leftS_get hg] at e1
  cases e1
  exact cl_left S c hg e2
theorem leftS_closes (S : Spans N M ss) (hc : closesB ss = true) : closesB (Fr.leftS ss) = true := (cl_in_left S (cl_amts S hc)).closes
theorem leftS_twice (S : Spans N M ss) (hM : 102 * M < 2 ^ 200) (hM2 : 102 * (102 * M) < 2 ^ 200) (hc : closesB ss = true) : Fr.leftS (Fr.leftS ss) = Fr.leftS ss := by
  have SL := S.leftS hM hc
  refine List.ext_getElem? fun k =>
                                                                                                                ?_
  by_cases hlt : k < ss.length
  · have hg := List.getElem?_eq_getElem hlt
    have hL := leftS_get hg
    rw [leftS_get hL, hL]
    congr 1
    obtain ⟨f1, f2, _, _⟩ := S.lef hg
    have le := left_yes S hg hc
    obtain ⟨xs, c, hx⟩ := left_cl S hM hg f1 ⟨Rat.le_refl, le⟩
    obtain ⟨ys, c2, hy⟩ := left_cl S hM hg f2 ⟨le, Rat.le_refl⟩
    have a1 := cl_left SL (cl_in_left S c) hL hx
    have a2 := cl_left SL (cl_in_left S c2) hL hy
    obtain ⟨_, _, b1, b2⟩ := SL.lef hL
    exact Prod.ext (Rat.le_antisymm a1.1 b1) (Rat.le_antisymm b2 a2.2)
  · rw [List.getElem?_eq_none (by rw [leftS_len, leftS_len]; omega), List.getElem?_eq_none (by rw [leftS_len]; omega)]
end
end Fr

namespace Fr
open PySem Mv Sh

def led (ss : List (Rat × Rat)) (k : Nat) (a : Rat) : List (Rat × Rat) := ss.set k (a, a)
theorem with_span {ss : List (Rat × Rat)} (hl : ss.length ≤ 1000) {k : Nat} (hk : k < ss.length) (a : Rat) : m__law_with_span [.tuple (ss.map sp), .int (k : Int), fr a] = some (.ret (.val (.tuple ((led ss k a).map sp)))) := by
  have := m_with_span_eq hl hk a
  rwa [put_perm hk] at this
def L1B : MS := (sSeq (sSet 7 (vCall m__law_with_span (vCons (vVar 0) (vCons (vVar 1) (vCons (vVar 6) (vNil)))))) (sIf (bOr (bNot (vB (vCall m__law_closes (vCons (vVar 7) (vNil))))) (bOr (vB (vOp dIsnt (vCall m_closes (vCons (vVar 7) (vNil))) (vC (.bool true)))) (bNot (vB (vCall m__law_is_closing (vCons (vVar 7) (vCons (vCall m_closing (vCons (vVar 7) (vNil))) (vNil)))))))) (sRet (vC (.bool false))) (sNil)))
def L2B : MS := (sSeq (sSet 9 (vOr (vCall m__law_below (vCons (vVar 6) (vCons (vVar 4) (vNil)))) (vCall m__law_below (vCons (vVar 5) (vCons (vVar 6) (vNil)))))) (sSeq (sSet 10 (vAnd (vNot (vCall m__law_below (vCons (vVar 6) (vCons (vOp dIx (vIxv 0 (vVar 1)) (vC (.int 0))) (vNil))))) (vNot (vCall m__law_below (vCons (vOp dIx (vIxv 0 (vVar 1)) (vC (.int 1))) (vCons (vVar 6) (vNil))))))) (sIf (bAnd (vB (vVar 9)) (bAnd (vB (vVar 10)) (vB (vCall m__law_closes (vCons (vCall m__law_with_span (vCons (vVar 0) (vCons (vVar 1) (vCons (vVar 6) (vNil))))) (vNil)))))) (sRet (vC (.bool false))) (sNil))))
@[simp] theorem isnt_bool (a b : Bool) : dIsnt (.bool a) (.bool b) = some (.val (.bool (!decide (a = b)))) := rfl
theorem ix_sp {ss : List (Rat × Rat)} {k : Nat} {p : Rat × Rat} (hk : ss[k]? = some p) : L2.atI (ss.map sp) (k : Int) = some (sp p) := by
  unfold L2.atI
  rw [ix_nat (by rw [List.length_map]; exact (List.getElem?_eq_some_iff.mp hk).1)]
  show (ss.map sp)[k]? = _
  rw [List.getElem?_map, hk]
  rfl
section
variable {M : Nat} {ss : List (Rat × Rat)} {k : Nat} {p : Rat × Rat}
theorem led_spans (S : Spans 42000 M ss) (hM : M < 2 ^ 150) {a : Rat} (h0 : 0 ≤ a) (ha : Fx 84000 (2 ^ 160) a) : Spans 84000 (2 ^ 160) (led ss k a) :=
  S.one_else h0 ha ⟨2, by decide, by decide, by
    have : 2 ^ 150 * 2 ≤ 2 ^ 160 := by decide
    omega⟩ (up (n := 84000) (k := 17) (by decide) (by decide)) (Nat.pow_lt_pow_right (by decide) (by decide))
theorem left_one (S : Spans 42000 M ss) (hM : M < 2 ^ 150) (hl : ss.length ≤ 20) (hk : ss[k]? = some p) {a : Rat} (ha : Fx 84000 (2 ^ 160) a) (h : (lefts ss k p).1 ≤ a ∧ a ≤ (lefts ss k p).2) (s3 s4 s5 s7 s8 s9 s10 : Sl) :
    ∃ t7, L1B [.val (.tuple (ss.map sp)), .val (.int (k : Int)), .val (sp (lefts ss k p)), s3, s4, s5, .val (fr a), s7, s8, s9, s10] = .ok .nx [.val (.tuple (ss.map sp)), .val (.int (k : Int)), .val (sp (lefts ss k p)), s3, s4, s5, .val (fr a), t7, s8, s9, s10] := by
  have hp := (in_left.mp h).1
  have h0 : 0 ≤ a := Rat.le_trans (S.all p (List.mem_of_getElem? hk)).lo hp.1
  have S2 := led_spans (k := k) S hM h0 ha
  have hc : closesB (led ss k a) = true := (left_iff S hk hp).mpr h
  have w := with_span (ss := ss) (by omega) (List.getElem?_eq_some_iff.mp hk).1 a
  have len : (led ss k a).length ≤ 20 := by unfold led; rw [List.length_set]; exact hl
  have c1 := m_law_closes_eq S2 len
  have c2 := m_closes_eq S2
  have c3 := m_closing_yes S2 hc (closes_small S2)
  have c3 : m_closing [.tuple ((led ss k a).map sp)] = some (.ret (.val (told (led ss k a)))) := c3
  have c4 := m_is_closing_eq S2 (Nat.pow_lt_pow_right (by decide) (by decide)) len hc
  rw [hc] at c1 c2
  refine ⟨.val (.tuple ((led ss k a).map sp)), ?_⟩
  simp [L1B, w, c1, c2, c3, c4]
theorem left_two (S : Spans 42000 M ss) (hM : M < 2 ^ 150) (hl : ss.length ≤ 20) (hk : ss[k]? = some p) {a : Rat} (ha : Fx 84000 (2 ^ 160) a) (s3 s7 s8 s9 s10 : Sl) :
    ∃ t9 t10, L2B [.val (.tuple (ss.map sp)), .val (.int (k : Int)), .val (sp (lefts ss k p)), s3, .val (fr (lefts ss k p).1), .val (fr (lefts ss k p).2), .val (fr a), s7, s8, s9, s10] = .ok .nx [.val (.tuple (ss.map sp)), .val (.int (k : Int)), .val (sp (lefts ss k p)), s3, .val (fr (lefts ss k p).1), .val (fr (lefts ss k p).2), .val (fr a), s7, s8, t9, t10] := by
  have P := S.all p (List.mem_of_getElem? hk)
  obtain ⟨f1, f2, _, _⟩ := S.lef hk
  have ba : Bq a := ha.bq ⟨by decide, up (n := 84000) (k := 17) (by decide) (by decide)⟩ (Nat.pow_lt_pow_right (by decide) (by decide))
  have e1 := m_below_eq ba (S.bq (by decide) f1)
  have e2 := m_below_eq (S.bq (by decide) f2) ba
  have e3 := m_below_eq ba (S.one P.f1)
  have e4 := m_below_eq (S.one P.f2) ba
  have ix := ix_sp hk
  refine ⟨.val (.bool (decide (a < (lefts ss k p).1) || decide ((lefts ss k p).2 < a))), .val (.bool (!decide (a < p.1) && !decide (p.2 < a))), ?_⟩
  by_cases o1 : a < (lefts ss k p).1 ∨ (lefts ss k p).2 < a
  · by_cases o2 : p.1 ≤ a ∧ a ≤ p.2
    · have n3 : ¬ a < p.1 := Rat.not_lt.mpr o2.1
      have n4 : ¬ p.2 < a := Rat.not_lt.mpr o2.2
      have S2 := led_spans (k := k) S hM (Rat.le_trans P.lo o2.1) ha
      have hc : closesB (led ss k a) = false := by
        cases hc : closesB (led ss k a) with
        | false => rfl
        | true =>
          have := (left_iff S hk o2).mp hc
          rcases o1 with o | o
          · exact absurd this.1 (Rat.not_le.mpr o)
          · exact absurd this.2 (Rat.not_le.mpr o)
      have w := with_span (ss := ss) (by omega) (List.getElem?_eq_some_iff.mp hk).1 a
      have len : (led ss k a).length ≤ 20 := by unfold led; rw [List.length_set]; exact hl
      have c1 := m_law_closes_eq S2 len
      rw [hc] at c1
      by_cases o3 : a < (lefts ss k p).1
      · simp [L2B, e1, e2, e3, e4, ix, w, c1, n3, n4, o3]
      · have o4 : (lefts ss k p).2 < a := o1.resolve_left o3
        simp [L2B, e1, e2, e3, e4, ix, w, c1, n3, n4, o3, o4]
    · by_cases o3 : a < (lefts ss k p).1
      · by_cases n3 : a < p.1
        · simp [L2B, e1, e2, e3, e4, ix, n3, o3]
        · have n4 : p.2 < a := Rat.not_le.mp fun z => o2 ⟨Rat.not_lt.mp n3, z⟩
          simp [L2B, e1, e2, e3, e4, ix, n3, n4, o3]
      · have o4 : (lefts ss k p).2 < a := o1.resolve_left o3
        by_cases n3 : a < p.1
        · simp [L2B, e1, e2, e3, e4, ix, n3, o3, o4]
        · have n4 : p.2 < a := Rat.not_le.mp fun z => o2 ⟨Rat.not_lt.mp n3, z⟩
          simp [L2B, e1, e2, e3, e4, ix, n3, n4, o3, o4]
  · have o3 : ¬ a < (lefts ss k p).1 := fun z => o1 (.inl z)
    have o4 : ¬ (lefts ss k p).2 < a := fun z => o1 (.inr z)
    by_cases n3 : a < p.1
    · simp [L2B, e1, e2, e3, e4, ix, n3, o3, o4]
    · simp [L2B, e1, e2, e3, e4, ix, n3, o3, o4]
theorem k34 {M : Nat} (h : 102 * M < 2 ^ 157) : (102 * M + 2 ^ 104) * 2 ≤ 2 ^ 160 :=
  Nat.le_trans (Nat.mul_le_mul_right 2 (Nat.add_le_add_right (Nat.le_of_lt h) _)) (by decide)
theorem is_left_ok (S : Spans 42000 M ss) (hM : M < 2 ^ 150) (hl : ss.length ≤ 20) (hk : ss[k]? = some p) (hc : closesB ss = true) {q : Rat} (hq : q ∈ bys) :
    m__law_is_left [.tuple (ss.map sp), .int (k : Int), sp (lefts ss k p), fr q] = some (.ret (.val (.bool true))) := by
  obtain ⟨f1, f2, b1, b2⟩ := S.lef hk
  have P := S.all p (List.mem_of_getElem? hk)
  have le := left_yes S hk hc
  have l1 := S.bq (by decide) f1
  have l2 := S.bq (by decide) f2
  have is := is_spans_eq (ps := [lefts ss k p]) (fun q hq => by cases List.mem_singleton.mp hq; exact ⟨Rat.le_trans P.lo b1, le, l1, l2⟩)
  have is : m__law_is_spans [.tuple [sp (lefts ss k p)]] = _ := is
  have ix := ix_sp hk
  have e3 := m_below_eq l1 (S.one P.f1)
  have e4 := m_below_eq (S.one P.f2) l2
  have n3 : ¬ (lefts ss k p).1 < p.1 := Rat.not_lt.mpr b1
  have n4 : ¬ p.2 < (lefts ss k p).2 := Rat.not_lt.mpr b2
  have k102 : 102 * M < 2 ^ 157 := up (mul_lt (a := 102) (n := 7) (by decide) hM) (by decide)
  have p2 := plus2 (N := 42000) (M := 102 * M) (by decide) (up (n := 42000) (k := 16) (by decide) (by decide)) (up k102 (by decide)) f1 f2
  have fs : Fx 42000 (204 * M) ((lefts ss k p).1 + (lefts ss k p).2) := (f1.add f2).mono (by omega)
  have bs := fs.bq ⟨by decide, up (n := 42000) (k := 16) (by decide) (by decide)⟩ (up (n := 204 * M) (k := 158) (by omega) (by decide))
  have o6 := m_over_eq bs bq2 (by decide)
  have e2' : PyData.tuple [.int 2, .int 1] = fr 2 := rfl
  have p158 : 2 ^ 158 ≤ 2 ^ 160 := Nat.pow_le_pow_right (by decide) (by decide)
  have fh : Fx 84000 (2 ^ 160) (((lefts ss k p).1 + (lefts ss k p).2) / 2) := by
    have h2 : Fx 2 1 (Rat.divInt 1 2) := ⟨1, by decide, rfl⟩
    have e : ∀ y : Rat, y / 2 = y * Rat.divInt 1 2 := fun y => by rw [Rat.div_def, Rat.inv_def]; rfl
    rw [e]
    exact (fs.mul h2).mono (by omega)
  have g1 : Fx 84000 (2 ^ 160) (lefts ss k p).1 := (f1.fine 2 (by decide)).mono (by omega)
  have g2 : Fx 84000 (2 ^ 160) (lefts ss k p).2 := (f2.fine 2 (by decide)).mono (by omega)
  obtain ⟨e', w1, _, s6, s7, _, _, rfl⟩ := for_inv (pat := pNm 6) (b := L1B) (fun ds e => ∃ (as : List Rat) (s6 s7 : Sl), ds = as.map fr ∧ (∀ a ∈ as, Fx 84000 (2 ^ 160) a ∧ (lefts ss k p).1 ≤ a ∧ a ≤ (lefts ss k p).2) ∧ e = [.val (.tuple (ss.map sp)), .val (.int (k : Int)), .val (sp (lefts ss k p)), .val (fr q), .val (fr (lefts ss k p).1), .val (fr (lefts ss k p).2), s6, s7, .no, .no, .no]) (fun d ds e ⟨as, a6, a7, hd, ha, he⟩ => by
    cases as with
    | nil => cases hd
    | cons a as =>
      rw [List.map_cons, List.cons.injEq] at hd
      obtain ⟨rfl, rfl⟩ := hd
      subst he
      obtain ⟨h1, h2⟩ := ha a List.mem_cons_self
      obtain ⟨t7, h⟩ := left_one S hM hl hk h1 h2 (.val (fr q)) (.val (fr (lefts ss k p).1)) (.val (fr (lefts ss k p).2)) a7 .no .no .no
      exact ⟨_, _, rfl, h, as, _, _, rfl, fun b hb => ha b (List.mem_cons_of_mem _ hb), rfl⟩) ([(lefts ss k p).1, (lefts ss k p).2, ((lefts ss k p).1 + (lefts ss k p).2) / 2].map fr) [.val (.tuple (ss.map sp)), .val (.int (k : Int)), .val (sp (lefts ss k p)), .val (fr q), .val (fr (lefts ss k p).1), .val (fr (lefts ss k p).2), .no, .no, .no, .no, .no] ⟨_, .no, .no, rfl, fun a ha => by
      simp only [List.mem_cons, List.not_mem_nil, or_false] at ha
      rcases ha with
                                                                                                                    rfl | rfl | rfl
      · exact ⟨g1, Rat.le_refl, le⟩
      · exact ⟨g2, le, Rat.le_refl⟩
      · exact ⟨fh, by grind, by grind⟩, rfl⟩
  obtain ⟨fq, q0⟩ := bys_fx q hq
  have f6 : Fx 600 1 (Rat.divInt 1 600) := ⟨1, by decide, rfl⟩
  have bq : Bq q := fq.bq ⟨by decide, up (n := 70) (k := 7) (by decide) (by decide)⟩ (up (n := 10 ^ 31) (k := 104) (by decide) (by decide))
  have by6 := m_by_eq (a := Rat.divInt 1 600) (b := q) (f6.bq ⟨by decide, up (n := 600) (k := 10) (by decide) (by decide)⟩ (up (n := 1) (k := 1) (by decide) (by decide))) bq
  have by6 : m__law_by [.tuple [.int 1, .int 600], fr q] = _ := by6
  have t31 : 1 * 10 ^ 31 ≤ 2 ^ 104 := by decide
  have fl : Fx 42000 (2 ^ 104) (Rat.divInt 1 600 * q) := (f6.mul fq).mono t31
  clear t31 fq
  generalize Rat.divInt 1 600 * q = little at *
  have bl : Bq little := fl.bq ⟨by decide, up (n := 42000) (k := 16) (by decide) (by decide)⟩ (Nat.pow_lt_pow_right (by decide) (by decide))
  have p105 : 2 ^ 157 + 2 ^ 104 ≤ 2 ^ 158 := by decide
  have mi := m_minus_eq l1 bl
  have pl := plus2 (N := 42000) (M := 102 * M + 2 ^ 104) (by decide) (up (n := 42000) (k := 16) (by decide) (by decide)) (up (n := 102 * M + 2 ^ 104) (k := 158) (by omega) (by decide)) (f2.mono (by omega)) (fl.mono (by omega))
  have g3 : Fx 84000 (2 ^ 160) ((lefts ss k p).1 - little) := ((f1.sub fl).fine 2 (by decide)).mono (k34 k102)
  have g4 : Fx 84000 (2 ^ 160) ((lefts ss k p).2 + little) := ((f2.add fl).fine 2 (by decide)).mono (k34 k102)
  have g5 : Fx 84000 (2 ^ 160) p.1 := (P.f1.fine 2 (by decide)).mono (by omega)
  have g6 : Fx 84000 (2 ^ 160) p.2 := (P.f2.fine 2 (by decide)).mono (by omega)
  obtain ⟨e', w2, _, t6, t9, t10, _, _, rfl⟩ := for_inv (pat := pNm 6) (b := L2B) (fun ds e => ∃ (as : List Rat) (s6 s9 s10 : Sl), ds = as.map fr ∧ (∀ a ∈ as, Fx 84000 (2 ^ 160) a) ∧ e = [.val (.tuple (ss.map sp)), .val (.int (k : Int)), .val (sp (lefts ss k p)), .val (fr q), .val (fr (lefts ss k p).1), .val (fr (lefts ss k p).2), s6, s7, .val (fr little), s9, s10]) (fun d ds e ⟨as, a6, a9, a10, hd, ha, he⟩ => by
    cases as with
    | nil => cases hd
    | cons a as =>
      rw [List.map_cons, List.cons.injEq] at hd
      obtain ⟨rfl, rfl⟩ := hd
      subst he
      obtain ⟨t9, t10, h⟩ := left_two S hM hl hk (ha a List.mem_cons_self) (.val (fr q)) s7 (.val (fr little)) a9 a10
      exact ⟨_, _, rfl, h, as, _, _, _, rfl, fun b hb => ha b (List.mem_cons_of_mem _ hb), rfl⟩) ([(lefts ss k p).1 - little, (lefts ss k p).2 + little, p.1, p.2].map fr) [.val (.tuple (ss.map sp)), .val (.int (k : Int)), .val (sp (lefts ss k p)), .val (fr q), .val (fr (lefts ss k p).1), .val (fr (lefts ss k p).2), s6, s7, .val (fr little), .no, .no] ⟨_, s6, .no, .no, rfl, fun a ha => by
      simp only [List.mem_cons, List.not_mem_nil, or_false] at ha
      rcases ha with rfl | rfl | rfl | rfl <;> assumption, rfl⟩
  unfold L1B at w1
  unfold L2B at w2
  simp only [List.map_cons, List.map_nil] at w1 w2
  simp only [m__law_is_left, runM, g__law_is_left, List.length_cons, List.length_nil, if_true]
  have isi : isiD "tuple" (sp (lefts ss k p)) = some (.val (.bool true)) := isi_tt _
  have ln : ∀ (a b : D), ([a, b] : List D).length = 2 := fun _ _ => rfl
  have lsp : ∀ (x : Rat × Rat), sp x = .tuple [fr x.1, fr x.2] := fun _ => rfl
  simp only [lsp] at *
  simp [startE, isi, is, ix, e3, e4, n3, n4, p2, o6, e2', w1, by6, mi, pl, w2, lim_is]
end
end Fr

namespace Fr
open PySem Mv Sh

section
variable (f g : M Sl) (s : Sl) (es : List Sl) (i : Nat) (l h : M (Option Int))
@[simp] theorem e_slv : vSlv i l h (s :: es) = match (s :: es)[i]? with
  | some (.val d) => (l (s :: es)).bind fun lo e2 => (h e2).bind fun hi e3 => opt (dSl d lo hi) e3
  | some (.own _ _) => (l (s :: es)).bind fun lo e2 => (h e2).bind fun hi e3 => ownE i e3 fun _ xs => opt (some (.own false (cutD xs lo hi))) e3
  | _ => .bad := rfl
@[simp] theorem e_vtr : vTr f (s :: es) = (vD f (s :: es)).bind truE := rfl
@[simp] theorem e_orT : vOrT f g (s :: es) = (vD f (s :: es)).bind fun d e => (truE d e).bind fun b e2 => if b = true then .ok (.val d) e2 else g e2 := rfl
@[simp] theorem e_andT : vAndT f g (s :: es) = (vD f (s :: es)).bind fun d e => (truE d e).bind fun b e2 => if b = true then g e2 else .ok (.val d) e2 := rfl
end
@[simp] theorem dList_l (xs : List D) : dList [.list xs] = some (.own false xs) := rfl
@[simp] theorem dList_t (xs : List D) : dList [.tuple xs] = some (.own false xs) := rfl
@[simp] theorem dTuple_l (xs : List D) : dTuple [.list xs] = some (.val (.tuple xs)) := rfl
@[simp] theorem ne_str (x y : Str) : dNe (.str x) (.str y) = some (.val (.bool (!decide (x = y)))) := rfl
theorem cut_tail1 (d : D) (rs : List D) : cutD (d :: rs) (some 1) none = rs := by
  unfold cutD
  rw [show HT.sIx (d :: rs).length 0 (some 1) = min 1 (d :: rs).length from HT.sIx_nat _ 0 1, HT.sIx_none]
  simp
@[simp] theorem eq_int (a b : Int) : dEq (.int a) (.int b) = some (.val (.bool (decide (a = b)))) := by
  rw [dEq]
  · rw [if_pos ⟨shaped_int a, shaped_int b⟩]
    simp only [PyData.eqv]
    rfl
  · intro _ _ h; cases h
@[simp] theorem ne_int (a b : Int) : dNe (.int a) (.int b) = some (.val (.bool (!decide (a = b)))) := by
  rw [dNe]
  · rw [if_pos ⟨shaped_int a, shaped_int b⟩]
    simp only [PyData.eqv]
    rfl
  · intro _ _ h; cases h
theorem tell_list {ds : List D} {w h : Nat} (p : ∀ d ∈ ds, plain d ∧ wide d ≤ w ∧ d.depth ≤ h) (hw : ds.length * (w + 2) + 3 ≤ 1000000) (hh : h ≤ 59) : Tell (.list ds) ∧ Tell (.tuple ds) := by
  have pl := plains_of fun d hd => (p d hd).1
  have wd := wides_of fun d hd => (p d hd).2.1
  have dp := depths_of fun d hd => (p d hd).2.2
  constructor
  · exact tell_of pl (by show wides ds + 3 ≤ 1000000; omega) (by simp only [PyData.depth]; omega)
  · exact tell_of pl (by show wides ds + 3 ≤ 1000000; omega) (by simp only [PyData.depth]; omega)
/-- a loop over things of one kind -/
theorem for_each {α : Type} {pat : D → En → Option En} {b : MS} (a : α → D) (I : List α → En → Prop) (stp : ∀ x xs e, I (x :: xs) e → ∃ e1 e2, pat (a x) e = some e1 ∧ b e1 = .ok .nx e2 ∧ I xs e2) (xs : List α) (e : En) (h : I xs e) : ∃ e', forL pat b (xs.map a) e = .ok .nx e' ∧ I [] e' := by
  obtain ⟨e', h1, ys, h2, h3⟩ := for_inv (pat := pat) (b := b) (fun ds e => ∃ ys : List α, ds = ys.map a ∧ I ys e) (fun d ds e ⟨ys, hd, hi⟩ => by
    cases ys with
    | nil => cases hd
    | cons y ys =>
      rw [List.map_cons, List.cons.injEq] at hd
      obtain ⟨rfl, rfl⟩ := hd
      obtain ⟨e1, e2, h1, h2, h3⟩ := stp y ys e hi
      exact ⟨e1, e2, h1, h2, ys, rfl, h3⟩) (xs.map a) e ⟨xs, rfl, h⟩
  have : ys = [] := by cases ys with
    | nil => rfl
    | cons y ys => cases h2
  subst this
  exact ⟨e', h1, h3⟩
/-- a loop that ends where a test fails -/
theorem for_test {α : Type} {pat : D → En → Option En} {b : MS} (a : α → D) (p : α → Bool) (r : Sl) (I : En → Prop) : ∀ (xs : List α) (e : En), (∀ x ∈ xs, ∀ e, I e → ∃ e1 e2, pat (a x) e = some e1 ∧ (p x = true → b e1 = .ok .nx e2 ∧ I e2) ∧ (p x = false → b e1 = .ok (.rt r) e2)) → I e →
    ∃ e', forL pat b (xs.map a) e = .ok (if xs.all p = true then Fl.nx else Fl.rt r) e' ∧ (xs.all p = true → I e')
  | [], e, _, hi => ⟨e, rfl, fun _ => hi⟩
  | x :: xs, e, stp, hi => by
    obtain ⟨e1, e2, h1, h2, h3⟩ := stp x List.mem_cons_self e hi
    cases hp : p x with
    | true =>
      obtain ⟨h4, h5⟩ := h2 hp
      obtain ⟨e', h6, h7⟩ := for_test a p r I xs e2 (fun y hy => stp y (List.mem_cons_of_mem _ hy)) h5
      refine ⟨e', ?_, fun h => h7 (by rw [List.all_cons, hp, Bool.true_and] at h; exact h)⟩
      rw [List.map_cons, forL_nx h1 h4, h6, List.all_cons, hp, Bool.true_and]
    | false =>
      refine ⟨e2, ?_, fun h => by rw [List.all_cons, hp] at h; cases h⟩
      rw [List.map_cons, forL, h1]
      dsimp only
      rw [h3 hp, List.all_cons, hp, Bool.false_and]
      rfl
theorem eq_nil_of {ds : List D} (h : SeqAt.shaped (.list ds) = true) : dEq (.list ds) (.list []) = some (.val (.bool ds.isEmpty)) := by
  rw [dEq]
  · rw [if_pos ⟨h, shaped_nil⟩]
    cases ds <;> simp [PyData.eqv, PyData.eqvAll]
  · intro _ _ h; cases h
theorem ne_nil_of {ds : List D} (h : SeqAt.shaped (.list ds) = true) : dNe (.list ds) (.list []) = some (.val (.bool (!ds.isEmpty))) := by
  rw [dNe]
  · rw [if_pos ⟨h, shaped_nil⟩]
    cases ds <;> simp [PyData.eqv, PyData.eqvAll]
  · intro _ _ h; cases h
/-- turns that leave the names as they are -/
theorem lcL_keep {α : Type} {pat : D → En → Option En} {tt : M Bool} {el : M Sl} {vs : List Nat} {e : En} (a : α → D) (p : α → Bool) (b : α → D) (xs : List α) (h : ∀ x ∈ xs, ∃ s es, pat (a x) e = some (s :: es) ∧ wipeE (s :: es) vs = e ∧ tt (s :: es) = .ok (p x) (s :: es) ∧ (p x = true → vD el (s :: es) = .ok (b x) (s :: es))) :
    lcL pat tt el vs (xs.map a) e = .ok ((xs.filter p).map b) e :=
  lcL_filter a p b xs fun x hx => let ⟨s, es, h1, h2, h3, h4⟩ := h x hx; ⟨s, es, _, _, h1, h3, fun hp => ⟨h4 hp, h2⟩, fun _ => h2⟩
theorem lcL_each {α : Type} {pat : D → En → Option En} {el : M Sl} {vs : List Nat} {e : En} (a : α → D) (b : α → D) (xs : List α) (h : ∀ x ∈ xs, ∃ s es, pat (a x) e = some (s :: es) ∧ wipeE (s :: es) vs = e ∧ vD el (s :: es) = .ok (b x) (s :: es)) :
    lcL pat bYes el vs (xs.map a) e = .ok (xs.map b) e :=
  lcL_map a b xs fun x hx => let ⟨s, es, h1, h2, h3⟩ := h x hx; ⟨s, es, _, h1, h3, h2⟩
end Fr

namespace Fr
open PySem Mv Sh

/-! ### nets -/
structure Box where
  src : Nat
  goal : Nat
  span : Rat × Rat
def boxD (b : Box) : D := .tuple [.int (b.src : Int), .int (b.goal : Int), fr b.span.1, fr b.span.2]
def inpD (p : Nat × (Rat × Rat)) : D := .tuple [.int (p.1 : Int), fr p.2.1, fr p.2.2]
structure Net where
  many : Nat
  boxes : List Box
  inps : List (Nat × (Rat × Rat))
def netD (N : Net) : D := .tuple [.int (N.many : Int), .tuple (N.boxes.map boxD), .tuple (N.inps.map inpD)]
@[simp] theorem netD0 (N : Net) : dIx (netD N) (.int 0) = some (.val (.int (N.many : Int))) := rfl
@[simp] theorem netD1 (N : Net) : dIx (netD N) (.int 1) = some (.val (.tuple (N.boxes.map boxD))) := rfl
@[simp] theorem netD2 (N : Net) : dIx (netD N) (.int 2) = some (.val (.tuple (N.inps.map inpD))) := rfl
@[simp] theorem boxD0 (b : Box) : dIx (boxD b) (.int 0) = some (.val (.int (b.src : Int))) := rfl
@[simp] theorem boxD1 (b : Box) : dIx (boxD b) (.int 1) = some (.val (.int (b.goal : Int))) := rfl
@[simp] theorem boxD2 (b : Box) : dIx (boxD b) (.int 2) = some (.val (fr b.span.1)) := rfl
@[simp] theorem boxD3 (b : Box) : dIx (boxD b) (.int 3) = some (.val (fr b.span.2)) := rfl
@[simp] theorem inpD0 (p : Nat × (Rat × Rat)) : dIx (inpD p) (.int 0) = some (.val (.int (p.1 : Int))) := rfl
theorem inpD_cut (p : Nat × (Rat × Rat)) : cutD [.int (p.1 : Int), fr p.2.1, fr p.2.2] (some 1) none = [fr p.2.1, fr p.2.2] := cut_tail1 _ _
/-- a net that is drawn: numbers of twelfths -/
structure NetOk (N : Net) : Prop where
  b : ∀ b ∈ N.boxes, b.src < N.many ∧ b.goal < N.many ∧ Span 12 108 b.span
  i : ∀ p ∈ N.inps, p.1 < N.many ∧ Span 12 108 p.2
  d : (N.inps.map (·.1)).Nodup
  bl : N.boxes.length ≤ 18
  il : N.inps.length ≤ 18
def bSp (b : Box) : D := .tuple [.int (b.src : Int), fr b.span.1, fr b.span.2]
def into (N : Net) (k : Nat) : List Box := N.boxes.filter fun b => decide (b.goal = k)
theorem lc_boxes (bs : List Box) (k : Nat) (s0 : Sl) : lcL (pTup (pCons (pNm 2) (pCons (pNm 3) (pCons (pNm 4) (pCons (pNm 5) (pNil)))))) (t1_boxes_to 0) (e1_boxes_to 0) [2, 3, 4, 5] (bs.map boxD) [s0, .val (.int (k : Int)), .no, .no, .no, .no] =
    .ok ((bs.filter fun b => decide (b.goal = k)).map bSp) [s0, .val (.int (k : Int)), .no, .no, .no, .no] :=
  lcL_keep boxD (fun b => decide (b.goal = k)) bSp bs fun b _ => ⟨s0, _, rfl, rfl, by simp [t1_boxes_to, Int.ofNat_inj], fun _ => by simp [e1_boxes_to, lim_is, bSp]⟩
theorem m_boxes_to_eq {N : Net} (K : NetOk N) (k : Nat) : m_boxes_to [netD N, .int (k : Int)] = some (.ret (.own false ((into N k).map bSp))) := by
  have h := lc_boxes N.boxes k (.val (netD N))
  have hl : N.boxes.length ≤ 1000000 := by have := K.bl; omega
  simp only [m_boxes_to, runM, g_boxes_to, List.length_cons, List.length_nil, if_true]
  simp [startE, h, hl, lim_is, noOwn, wipeE, backE, into]
theorem m_law_boxes_eq {N : Net} (K : NetOk N) (k : Nat) : m__law_boxes_to [netD N, .int (k : Int)] = some (.ret (.own false ((into N k).map boxD))) := by
  have h : lcL (pNm 2) (t1__law_boxes_to 0) (vVar 2) [2] (N.boxes.map boxD) [.val (netD N), .val (.int (k : Int)), .no] = .ok ((into N k).map boxD) [.val (netD N), .val (.int (k : Int)), .no] :=
    lcL_keep boxD (fun b => decide (b.goal = k)) boxD N.boxes fun b _ => ⟨.val (netD N), _, rfl, rfl, by simp [t1__law_boxes_to, Int.ofNat_inj], fun _ => by simp⟩
  have hl : N.boxes.length ≤ 1000000 := by have := K.bl; omega
  simp only [m__law_boxes_to, runM, g__law_boxes_to, List.length_cons, List.length_nil, if_true]
  simp [startE, h, hl, lim_is, noOwn, wipeE, backE]
/-- the input's span of a place: one, or none -/
def inAt (N : Net) (k : Nat) : List (Rat × Rat) := (N.inps.filter fun p => decide (p.1 = k)).map (·.2)
theorem few_of : ∀ {ps : List (Nat × (Rat × Rat))} (k : Nat), (ps.map (·.1)).Nodup → ((ps.filter fun p => decide (p.1 = k)).map (·.2)).length ≤ 1
  | [], _, _ => by simp
  | p :: ps, k, h => by
    rw [List.map_cons,
                                                                                                                  List.nodup_cons] at h
    have ih := few_of k h.2
    by_cases hp : p.1 = k
    · have : ps.filter (fun p => decide (p.1 = k)) = [] := by
        rw [List.filter_eq_nil_iff]
        intro q hq hd
        exact h.1 (List.mem_map.mpr ⟨q, hq, by rw [of_decide_eq_true hd, hp]⟩)
      rw [List.filter_cons_of_pos (by simpa using hp), this]
      simp
    · rw [List.filter_cons_of_neg (by simpa using hp)]
      exact ih
theorem NetOk.one {N : Net} (K : NetOk N) (k : Nat) : (inAt N k).length ≤ 1 := few_of k K.d
theorem m_law_inputs_eq {N : Net} (K : NetOk N) (k : Nat) : m__law_inputs [netD N, .int (k : Int)] = some (.ret (.own false ((inAt N k).map sp))) := by
  have h : lcL (pNm 2) (t1__law_inputs 0) (e1__law_inputs 0) [2] (N.inps.map inpD) [.val (netD N), .val (.int (k : Int)), .no] = .ok ((N.inps.filter fun p => decide (p.1 = k)).map fun p => sp p.2) [.val (netD N), .val (.int (k : Int)), .no] :=
    lcL_keep inpD (fun p => decide (p.1 = k)) (fun p => sp p.2) N.inps fun p _ => by
      have hc := inpD_cut p
      exact ⟨.val (netD N), _, rfl, rfl, by simp [t1__law_inputs, Int.ofNat_inj], fun _ => by simp [e1__law_inputs, inpD, hc, sp]⟩
  have hl : N.inps.length ≤ 1000000 := by have := K.il; omega
  simp only [m__law_inputs, runM, g__law_inputs, List.length_cons, List.length_nil, if_true]
  simp [startE, h, hl, lim_is, noOwn, wipeE, backE, inAt, List.map_map]
theorem shaped_fr (q : Rat) : SeqAt.shaped (fr q) = true := by simp [fr, SeqAt.shaped, PyData.canLay0, PyData.canLayAll0, PyData.depth, PyData.depthAll]
theorem shaped_sp (p : Rat × Rat) : SeqAt.shaped (sp p) = true := by simp [fr, sp, SeqAt.shaped, PyData.canLay0, PyData.canLayAll0, PyData.depth, PyData.depthAll]
theorem shaped_one (p : Rat × Rat) : SeqAt.shaped (.list [sp p]) = true := by simp [fr, sp, SeqAt.shaped, PyData.canLay0, PyData.canLayAll0, PyData.depth, PyData.depthAll]
theorem ne_one (p : Rat × Rat) : dNe (.list [sp p]) (.list []) = some (.val (.bool true)) := by
  rw [dNe]
  · rw [if_pos ⟨shaped_one p, shaped_nil⟩]
    simp [PyData.eqv, PyData.eqvAll]
  · intro _ _ h; cases h
theorem m_input_at_eq {N : Net} (K : NetOk N) (k : Nat) : m_input_at [netD N, .int (k : Int)] = some (.ret (.val (match inAt N k with | [] => .none | p :: _ => sp p))) := by
  have h : lcL (pTup (pCons (pNm 3) (pCons (pNm 4) (pCons (pNm 5) (pNil))))) (t1_input_at 0) (e1_input_at 0) [3, 4, 5] (N.inps.map inpD) [.val (netD N), .val (.int (k : Int)), .no, .no, .no, .no] = .ok ((N.inps.filter fun p => decide (p.1 = k)).map fun p => sp p.2) [.val (netD N), .val (.int (k : Int)), .no, .no, .no, .no] :=
    lcL_keep inpD (fun p => decide (p.1 = k)) (fun p => sp p.2) N.inps fun p _ => ⟨.val (netD N), _, rfl, rfl, by simp [t1_input_at, Int.ofNat_inj], fun _ => by simp [e1_input_at, lim_is, sp]⟩
  have hl : N.inps.length ≤ 1000000 := by have := K.il; omega
  have e : ((N.inps.filter fun p => decide (p.1 = k)).map fun p => sp p.2) = (inAt N k).map sp := by unfold inAt; rw [List.map_map]; rfl
  rw [e] at h
  have h1 := K.one k
  simp only [m_input_at, runM, g_input_at, List.length_cons, List.length_nil, if_true]
  match hi : inAt N k with
  | [] =>
    rw [hi] at h
    simp [startE, h, hl, lim_is, noOwn, wipeE, backE]
  | [p] =>
    rw [hi] at h
    have hn := ne_one p
    simp [startE, h, hl, lim_is, noOwn, wipeE, backE, hn]
  | _ :: _ :: _ => rw [hi] at h1; simp at h1
end Fr

namespace Fr
open PySem Mv Sh

/-! ### sizes, spans at a place -/
structure SzOk (C M : Nat) (n : Nat) (xs : List Rat) : Prop where
  len : xs.length = n
  all : ∀ q ∈ xs, 0 ≤ q ∧ Fx C M q
  c0 : 0 < C
  c1 : C < 2 ^ 150
  m1 : M < 2 ^ 150
def at0 (xs : List Rat) (k : Nat) : Rat := xs.getD k 0
theorem at_get {xs : List Rat} {k : Nat} (h : k < xs.length) : xs[k]? = some (at0 xs k) := by
  unfold at0
  rw [List.getD_eq_getElem?_getD, List.getElem?_eq_getElem h]
  rfl
theorem ix_fr {xs : List Rat} {k : Nat} (h : k < xs.length) : L2.atI (xs.map fr) (k : Int) = some (fr (at0 xs k)) := by
  unfold L2.atI
  rw [ix_nat (by rw [List.length_map]; exact h)]
  show (xs.map fr)[k]? = _
  rw [List.getElem?_map, at_get h]
  rfl
theorem SzOk.at {C M n : Nat} {xs : List Rat} (h : SzOk C M n xs) {k : Nat} (hk : k < n) : 0 ≤ at0 xs k ∧ Fx C M (at0 xs k) := h.all _ (List.mem_of_getElem? (at_get (by rw [h.len]; exact hk)))
def led1 (xs : List Rat) (b : Box) : Rat × Rat := (b.span.1 * at0 xs b.src, b.span.2 * at0 xs b.src)
def spansOf (N : Net) (xs : List Rat) (k : Nat) : List (Rat × Rat) := (into N k).map (led1 xs) ++ inAt N k
theorem n12 : (0 : Nat) < 12 ∧ 12 < 2 ^ 4000 := ⟨by decide, up (n := 12) (k := 4) (by decide) (by decide)⟩
theorem n6 : (0 : Nat) < 6 ∧ 6 < 2 ^ 4000 := ⟨by decide, up (n := 6) (k := 3) (by decide) (by decide)⟩
theorem bq12 {q : Rat} (h : Fx 12 108 q) : Bq q := h.bq n12 (up (n := 108) (k := 7) (by decide) (by decide))
theorem bq6 {q : Rat} (h : Fx 6 174 q) : Bq q := h.bq n6 (up (n := 174) (k := 8) (by decide) (by decide))
theorem SzOk.bq {C M n : Nat} {xs : List Rat} (h : SzOk C M n xs) {q : Rat} (hq : Fx C M q) : Bq q := hq.bq ⟨h.c0, up h.c1 (by decide)⟩ (up h.m1 (by decide))
/-- numerators of spans behind a beat -/
def MM (C M : Nat) : Nat := 108 * (M + C)
theorem SzOk.mm {C M n : Nat} {xs : List Rat} (h : SzOk C M n xs) : 12 * C < 2 ^ 160 ∧ MM C M < 2 ^ 160 := by
  have h1 := h.c1
  have h2 := h.m1
  have e : 2 ^ 160 = 1024 * 2 ^ 150 := by decide
  rw [e]
  unfold MM
  omega
section
variable {N : Net} {xs : List Rat} {k : Nat} {C M : Nat}
theorem NetOk.into (K : NetOk N) : ∀ b ∈ Fr.into N k, b.src < N.many ∧ b.goal = k ∧ Span 12 108 b.span := fun b hb => by
  obtain ⟨h1, h2⟩ := List.mem_filter.mp hb
  exact ⟨(K.b b h1).1, of_decide_eq_true h2, (K.b b h1).2.2⟩
theorem NetOk.ins (K : NetOk N) : ∀ p ∈ inAt N k, Span 12 108 p := fun p hp => by
  obtain ⟨q, hq, rfl⟩ :=
                                                                                                                List.mem_map.mp hp
  exact (K.i q (List.mem_filter.mp hq).1).2
theorem NetOk.spans (K : NetOk N) (S : SzOk C M N.many xs) : Spans (12 * C) (MM C M) (spansOf N xs k) := by
  have c0 := S.c0
  refine ⟨fun p hp => ?_, ?_, by omega, up S.mm.1 (by decide), up S.mm.2 (by decide)⟩
  · rcases List.mem_append.mp hp with
                                                                                                                  hp | hp
    · obtain ⟨b, hb, rfl⟩ := List.mem_map.mp hp
      obtain ⟨h1, _, P⟩ := K.into b hb
      obtain ⟨h0, f⟩ := S.at h1
      exact ⟨Rat.mul_nonneg P.lo h0, Rat.mul_le_mul_of_nonneg_right P.le h0, (P.f1.mul f).mono (by unfold MM; omega), (P.f2.mul f).mono (by unfold MM; omega)⟩
    · have P := K.ins p hp
      exact ⟨P.lo, P.le, (P.f1.fine C c0).mono (by unfold MM; omega), (P.f2.fine C c0).mono (by unfold MM; omega)⟩
  · unfold spansOf
    have h1 := K.one k
    have h2 : (Fr.into N k).length ≤ N.boxes.length := List.length_filter_le _ _
    have := K.bl
    rw [List.length_append, List.length_map]
    omega
theorem spans_len (K : NetOk N) : (spansOf N xs k).length ≤ N.boxes.length + 1 := by
  unfold spansOf
  have h1 := K.one k
  have h2 : (Fr.into N k).length ≤ N.boxes.length := List.length_filter_le _ _
  rw [List.length_append, List.length_map]
  omega
theorem m_spans_at_eq (K : NetOk N) (S : SzOk C M N.many xs) : m_spans_at [netD N, .tuple (xs.map fr), .int (k : Int)] = some (.ret (.val (.tuple ((spansOf N xs k).map sp)))) := by
  have h1 := m_boxes_to_eq K k
  have h2 := m_input_at_eq K k
  have bl : (Fr.into N k).length ≤ 18 := Nat.le_trans (List.length_filter_le _ _) K.bl
  obtain ⟨e', h, ys, s4, s5, s6, rfl, hy⟩ := for_each (pat := pTup (pCons (pNm 4) (pCons (pNm 5) (pCons (pNm 6) (pNil))))) (b := b1_spans_at 0) bSp (fun bs e => ∃ (ys : List (Rat × Rat)) (s4 s5 s6 : Sl), e = [.val (netD N), .val (.tuple (xs.map fr)), .val (.int (k : Int)), .own false (ys.map sp), s4, s5, s6, .no] ∧ (∀ b ∈ bs, b ∈ Fr.into N k) ∧ ys ++ bs.map (led1 xs) = (Fr.into N k).map (led1 xs)) (fun b bs e ⟨ys, s4, s5, s6, he, hb, hy⟩ => by
    subst he
    obtain ⟨g1, _, P⟩ := K.into b (hb b List.mem_cons_self)
    have ix := ix_fr (xs := xs) (k := b.src) (by rw [S.len]; exact g1)
    have t1 := m_times_eq (bq12 P.f1) (S.bq (S.at g1).2)
    have t2 := m_times_eq (bq12 P.f2) (S.bq (S.at g1).2)
    have yl : ys.length < 1000000 := by
      have := congrArg List.length hy
      rw [List.length_append, List.length_map, List.length_map] at this
      omega
    refine ⟨[.val (netD N), .val (.tuple (xs.map fr)), .val (.int (k : Int)), .own false (ys.map sp), .val (.int (b.src : Int)), .val (fr b.span.1), .val (fr b.span.2), .no], [.val (netD N), .val (.tuple (xs.map fr)), .val (.int (k : Int)), .own false ((ys ++ [led1 xs b]).map sp), .val (.int (b.src : Int)), .val (fr b.span.1), .val (fr b.span.2), .no], rfl, ?_, _, _, _, _, rfl, fun c hc => hb c (List.mem_cons_of_mem _ hc), by rw [List.append_assoc]; exact hy⟩
    simp [b1_spans_at, ix, t1, t2, lim_is, yl, led1, sp]) (Fr.into N k) [.val (netD N), .val (.tuple (xs.map fr)), .val (.int (k : Int)), .own false [], .no, .no, .no, .no] ⟨[], .no, .no, .no, rfl, fun _ h => h, rfl⟩
  obtain ⟨_, hy⟩ := hy
  rw [List.map_nil, List.append_nil] at hy
  subst hy
  have hn := K.one k
  simp only [m_spans_at, runM, g_spans_at, List.length_cons, List.length_nil, if_true]
  have e1 : spansOf N xs k = (Fr.into N k).map (led1 xs) ++ inAt N k := rfl
  match hi : inAt N k with
  | [] =>
    rw [hi] at h2 e1
    rw [e1]
    simp [startE, h1, h2, h]
  | [p] =>
    rw [hi] at h2 e1
    rw [e1]
    have isn : dIs (sp p) .none = some (.val (.bool false)) := rfl
    have bl2 : (Fr.into N k).length ≤ 999999 := by omega
    simp [startE, h1, h2, h, isn, lim_is, bl2]
  | _ :: _ :: _ => rw [hi] at hn; simp at hn
theorem m_net_spans_eq (K : NetOk N) (S : SzOk C M N.many xs) : m__law_net_spans [netD N, .int (k : Int), .tuple (xs.map fr)] = some (.ret (.own false ((spansOf N xs k).map sp))) := by
  have h1 := m_law_boxes_eq K k
  have h2 := m_law_inputs_eq K k
  have bl : (Fr.into N k).length ≤ 18 := Nat.le_trans (List.length_filter_le _ _) K.bl
  have il := K.one k
  have h : lcL (pNm 4) bYes (e1__law_net_spans 0) [4] ((Fr.into N k).map boxD) [.val (netD N), .val (.int (k : Int)), .val (.tuple (xs.map fr)), .no, .no] = .ok ((Fr.into N k).map fun b => sp (led1 xs b)) [.val (netD N), .val (.int (k : Int)), .val (.tuple (xs.map fr)), .no, .no] :=
    lcL_each boxD (fun b => sp (led1 xs b)) (Fr.into N k) fun b hb => by
      obtain ⟨g1, _, P⟩ := K.into b hb
      have ix := ix_fr (xs := xs) (k := b.src) (by rw [S.len]; exact g1)
      have t1 := m_by_eq (bq12 P.f1) (S.bq (S.at g1).2)
      have t2 := m_by_eq (bq12 P.f2) (S.bq (S.at g1).2)
      exact ⟨.val (netD N), _, rfl, rfl, by simp [e1__law_net_spans, ix, t1, t2, lim_is, led1, sp]⟩
  have bl1 : (Fr.into N k).length ≤ 1000000 := by omega
  have bl2 : (Fr.into N k).length + (inAt N k).length ≤ 1000000 := by omega
  simp only [m__law_net_spans, runM, g__law_net_spans, List.length_cons, List.length_nil, if_true]
  simp [startE, h1, h2, h, lim_is, noOwn, wipeE, backE, bl1, bl2, spansOf, List.map_append, List.map_map, Function.comp_def]
end
end Fr

namespace Fr
open PySem Mv Sh

/-! ### the law's reach, sizes behind one beat -/
theorem outOf_rt (r : Sl) (e : En) : outOf (.ok (.rt r) e) = some (.ret r) := rfl
theorem low_nn2 (ss : List (Rat × Rat)) : 0 ≤ low ss := (maxQ_ge _ _).1
theorem lc_others2 (ss : List (Rat × Rat)) (k : Nat) (s0 s1 s3 : Sl) : lcL (pTup (pCons (pNm 4) (pCons (pNm 5) (pNil)))) (t1__law_reach_v2 0) (vIxv 5 (vC (.int 1))) [4, 5] (ss.zipIdx.map numD) [s0, s1, .val (.int (k : Int)), s3, .no, .no] =
    .ok ((ss.zipIdx.filter fun x => !decide (x.2 = k)).map fun x => fr x.1.2) [s0, s1, .val (.int (k : Int)), s3, .no, .no] :=
  lcL_keep numD (fun x => !decide (x.2 = k)) (fun x => fr x.1.2) ss.zipIdx fun x _ => ⟨s0, _, rfl, rfl, by simp [t1__law_reach_v2, Int.ofNat_inj], fun _ => by simp⟩
theorem m_law_reach2_eq {N M : Nat} {ss : List (Rat × Rat)} (S : Spans N M ss) (hl : ss.length ≤ 20) : m__law_reach_v2 [.list (ss.map sp)] = some (.ret (.val (sp (low ss, tot ss)))) := by
  have hz : enumD (ss.map sp) = ss.zipIdx.map numD := enum_zip ss
  obtain ⟨e', h, ys, s2, s3, rfl, hy⟩ := for_each (pat := pTup (pCons (pNm 2) (pCons (pNm 3) (pNil)))) (b := b1__law_reach_v2 0) numD (fun zs e => ∃ (ys : List Rat) (s2 s3 : Sl), e = [.val (.list (ss.map sp)), .own false (fr 0 :: ys.map fr), s2, s3, .no, .no] ∧ (s3 = .no ∨ ∃ d, s3 = .val d) ∧ (∀ z ∈ zs, z ∈ ss.zipIdx) ∧ ys ++ zs.map (fun z => leftOf ss z.1) = ss.zipIdx.map (fun z => leftOf ss z.1)) (fun z zs e ⟨ys, s2, s3, he, _, hm, hy⟩ => by
    subst he
    have hz2 := hm z List.mem_cons_self
    have hx : ss[z.2]? = some z.1 := List.mk_mem_zipIdx_iff_getElem?.mp hz2
    have P := S.all _ (List.mem_of_getElem? hx)
    have hf : ∀ q ∈ ((ss.zipIdx.filter fun y => !decide (y.2 = z.2)).map fun y => y.1.2), Fx N M q := fun q hq => by
      obtain ⟨y, hy, rfl⟩ := List.mem_map.mp hq
      have hy := (List.mem_filter.mp hy).1
      have : ss[y.2]? = some y.1 := List.mk_mem_zipIdx_iff_getElem?.mp hy
      exact (S.all _ (List.mem_of_getElem? this)).f2
    have hlen := List.length_filter_le (fun y : (Rat × Rat) × Nat => !decide (y.2 = z.2)) ss.zipIdx
    rw [List.length_zipIdx] at hlen
    have h2 := plus_few S.sz (qs := (ss.zipIdx.filter fun y => !decide (y.2 = z.2)).map fun y => y.1.2) (.inl rfl) hf (by rw [List.length_map]; omega)
    have hs := sum_but ss 0 z.2 z.1 hx
    simp only [Nat.zero_add] at hs
    rw [hs, List.map_map] at h2
    have h2 : m__law_plus [.list ((ss.zipIdx.filter fun y => !decide (y.2 = z.2)).map fun y => fr y.1.2)] = some (.ret (.val (fr (tot ss - z.1.2)))) := h2
    have h3 := m_minus_eq (S.one P.f1) (S.bq (by decide) (S.left (List.mem_of_getElem? hx)).1)
    have yl : ys.length < 999999 := by
      have := congrArg List.length hy
      rw [List.length_append, List.length_map, List.length_map, List.length_zipIdx] at this
      omega
    have h1 := lc_others2 ss z.2 (.val (.list (ss.map sp))) (.own false (fr 0 :: ys.map fr)) (.val (sp z.1))
    have hl6 : ss.length ≤ 1000000 := by omega
    refine ⟨[.val (.list (ss.map sp)), .own false (fr 0 :: ys.map fr), .val (.int (z.2 : Int)), .val (sp z.1), .no, .no], [.val (.list (ss.map sp)), .own false (fr 0 :: (ys ++ [leftOf ss z.1]).map fr), .val (.int (z.2 : Int)), .val (sp z.1), .no, .no], rfl, ?_, _, _, _, rfl, .inr ⟨_, rfl⟩, fun y hy => hm y (List.mem_cons_of_mem _ hy), by rw [List.append_assoc]; exact hy⟩
    have e4 : z.1.1 - (tot ss - z.1.2) = leftOf ss z.1 := rfl
    rw [e4] at h3
    simp [b1__law_reach_v2, hz, h1, h2, h3, hl6, lim_is, noOwn, wipeE, backE, yl]) ss.zipIdx [.val (.list (ss.map sp)), .own false [fr 0], .no, .no, .no, .no] ⟨[], .no, .no, rfl, .inl rfl, fun _ h => h, rfl⟩
  obtain ⟨h3, _, hy⟩ := hy
  rw [List.map_nil, List.append_nil] at hy
  have e5 : ss.zipIdx.map (fun z => leftOf ss z.1) = ss.map (leftOf ss) := by
    have := List.zipIdx_map_fst 0 ss
    have h2 := congrArg (List.map (leftOf ss)) this
    rw [List.map_map] at h2
    exact h2
  rw [e5] at hy
  subst hy
  have g := m_highest_eq (q := 0) (rs := ss.map (leftOf ss)) ⟨by decide, by decide⟩ (fun r hr => by
    obtain ⟨p, hp, rfl⟩ := List.mem_map.mp hr
    exact S.bq (by decide) (S.left hp).2)
  have g : m__law_highest [.list (fr 0 :: (ss.map (leftOf ss)).map fr)] = some (.ret (.val (fr (low ss)))) := g
  have pt := plus_tops S hl
  have lt : lcL (pNm 3) bYes (vIxv 3 (vC (.int 1))) [3] (ss.map sp) [.val (.list (ss.map sp)), .val (.list (fr 0 :: (ss.map (leftOf ss)).map fr)), s2, .no, .no, .no] = .ok (ss.map fun p => fr p.2) [.val (.list (ss.map sp)), .val (.list (fr 0 :: (ss.map (leftOf ss)).map fr)), s2, .no, .no, .no] :=
    lcL_each sp (fun p => fr p.2) ss fun p _ => ⟨.val (.list (ss.map sp)), _, rfl, rfl, by simp⟩
  have e0 : PyData.tuple [.int 0, .int 1] = fr 0 := rfl
  have hl6 : ss.length ≤ 1000000 := by omega
  simp only [m__law_reach_v2, runM, g__law_reach_v2, List.length_cons, List.length_nil, if_true]
  simp only [List.map_map] at g h lt
  rcases h3 with rfl | ⟨d3, rfl⟩ <;> simp [startE, hz, h, g, pt, lt, e0, hl6, lim_is, noOwn, wipeE, backE, sp]
/-- sizes that may stand behind one beat -/
def rngs (N : Net) (xs : List Rat) : List (Rat × Rat) := (List.range N.many).map fun k => (low (spansOf N xs k), tot (spansOf N xs k))
section
variable {N : Net} {xs : List Rat} {C M : Nat}
theorem m_next_range_eq (K : NetOk N) (S : SzOk C M N.many xs) (hm : N.many ≤ 1000) : m_next_range [netD N, .tuple (xs.map fr)] = some (.ret (.own false ((rngs N xs).map sp))) := by
  have e : rngD 0 N.many = (List.range N.many).map fun (k : Nat) => PyData.int (k : Int) := by
    unfold rngD
    exact List.map_congr_left fun (k : Nat) _ => by rw [Int.zero_add]
  have h : lcL (pNm 2) bYes (e1_next_range 0) [2] (rngD 0 N.many) [.val (netD N), .val (.tuple (xs.map fr)), .no] = .ok ((List.range N.many).map fun k => sp (low (spansOf N xs k), tot (spansOf N xs k))) [.val (netD N), .val (.tuple (xs.map fr)), .no] := by
    rw [e]
    exact lcL_each (fun k : Nat => PyData.int (k : Int)) _ (List.range N.many) fun k _ => by
      have h1 := m_spans_at_eq (k := k) K S
      have h2 := m_reach_eq (K.spans (k := k) S)
      exact ⟨.val (netD N), _, rfl, rfl, by simp [e1_next_range, h1, h2, sp]⟩
  have rng : ∀ e, rngR [.int ((N.many : Nat) : Int)] e = .ok (rngD 0 N.many) e := rng_nat (by omega)
  have hr : (rngD 0 N.many).length = N.many := rng_len _ _
  have hm6 : N.many ≤ 1000000 := by omega
  simp only [m_next_range, runM, g_next_range, List.length_cons, List.length_nil, if_true]
  simp [startE, rng, hr, h, hm6, lim_is, noOwn, wipeE, backE, rngs, List.map_map, Function.comp_def]
theorem m_law_next_eq (K : NetOk N) (S : SzOk C M N.many xs) (hm : N.many ≤ 1000) : m__law_next [netD N, .tuple (xs.map fr)] = some (.ret (.own false ((rngs N xs).map sp))) := by
  have e : rngD 0 N.many = (List.range N.many).map fun (k : Nat) => PyData.int (k : Int) := by
    unfold rngD
    exact List.map_congr_left fun (k : Nat) _ => by rw [Int.zero_add]
  have h : lcL (pNm 2) bYes (e1__law_next 0) [2] (rngD 0 N.many) [.val (netD N), .val (.tuple (xs.map fr)), .no] = .ok ((List.range N.many).map fun k => sp (low (spansOf N xs k), tot (spansOf N xs k))) [.val (netD N), .val (.tuple (xs.map fr)), .no] := by
    rw [e]
    exact lcL_each (fun k : Nat => PyData.int (k : Int)) _ (List.range N.many) fun k _ => by
      have h1 := m_net_spans_eq (k := k) K S
      have h2 := m_law_reach2_eq (K.spans (k := k) S) (by have := spans_len (xs := xs) (k := k) K; have := K.bl; omega)
      exact ⟨.val (netD N), _, rfl, rfl, by simp [e1__law_next, h1, h2]⟩
  have rng : ∀ e, rngR [.int ((N.many : Nat) : Int)] e = .ok (rngD 0 N.many) e := rng_nat (by omega)
  have hr : (rngD 0 N.many).length = N.many := rng_len _ _
  have hm6 : N.many ≤ 1000000 := by omega
  simp only [m__law_next, runM, g__law_next, List.length_cons, List.length_nil, if_true]
  simp [startE, rng, hr, h, hm6, lim_is, noOwn, wipeE, backE, rngs, List.map_map, Function.comp_def]
def wi (x : (Rat × Rat) × Rat) : Bool := decide (x.1.1 ≤ x.2) && decide (x.2 ≤ x.1.2)
def zpD (x : (Rat × Rat) × Rat) : D := .tuple [sp x.1, fr x.2]
theorem zip_sp : ∀ (ss : List (Rat × Rat)) (ys : List Rat), zipD (ss.map sp) (ys.map fr) = (ss.zip ys).map zpD
  | [], [] => rfl
  | [], _ :: _ => rfl
  | _ :: _, [] => rfl
  | p :: ss, y :: ys => by
    have := zip_sp ss ys
    show zipD (sp p :: ss.map sp) (fr y :: ys.map fr) = zpD (p, y) :: (ss.zip ys).map zpD
    rw [← this]
    rfl
theorem rngs_fx (K : NetOk N) (S : SzOk C M N.many xs) : ∀ p ∈ rngs N xs, Fx (12 * C) (102 * MM C M) p.1 ∧ Fx (12 * C) (102 * MM C M) p.2 := fun p hp => by
  obtain ⟨k, _, rfl⟩ := List.mem_map.mp hp
  have SS := K.spans (k := k) S
  exact ⟨SS.low, SS.fxTot.mono (by omega)⟩
theorem SzOk.bqr {n : Nat} (S : SzOk C M n xs) {q : Rat} (h : Fx (12 * C) (102 * MM C M) q) : Bq q := h.bq ⟨by have := S.c0; omega, up S.mm.1 (by decide)⟩ (up (mul_lt (a := 102) (n := 7) (by decide) S.mm.2) (by decide))
def follB (N : Net) (xs ys : List Rat) : Bool := ((rngs N xs).zip ys).all wi
theorem m_follows_eq (K : NetOk N) (S : SzOk C M N.many xs) (hm : N.many ≤ 1000) {ys : List Rat} (hy : ∀ y ∈ ys, Bq y) : m_follows [netD N, .tuple (xs.map fr), .tuple (ys.map fr)] = some (.ret (.val (.bool (follB N xs ys)))) := by
  have h1 := m_next_range_eq K S hm
  have hz := zip_sp (rngs N xs) ys
  obtain ⟨e', h, hi⟩ := for_test (pat := pTup (pCons (pTup (pCons (pNm 3) (pCons (pNm 4) (pNil)))) (pCons (pNm 5) (pNil)))) (b := b1_follows 0) zpD wi (.val (.bool false)) (fun e => ∃ s3 s4 s5 : Sl, e = [.val (netD N), .val (.tuple (xs.map fr)), .val (.tuple (ys.map fr)), s3, s4, s5]) ((rngs N xs).zip ys) [.val (netD N), .val (.tuple (xs.map fr)), .val (.tuple (ys.map fr)), .no, .no, .no] (fun x hx e ⟨s3, s4, s5, he⟩ => by
    subst he
    have hx1 := rngs_fx K S _ (List.of_mem_zip hx).1
    have hx2 := hy _ (List.of_mem_zip hx).2
    have c1 := m_compared_eq hx2 (S.bqr hx1.1)
    have c2 := m_compared_eq hx2 (S.bqr hx1.2)
    have l1 := cmpI_lt x.2 x.1.1
    have l2 := cmpI_gt x.2 x.1.2
    refine ⟨[.val (netD N), .val (.tuple (xs.map fr)), .val (.tuple (ys.map fr)), .val (fr x.1.1), .val (fr x.1.2), .val (fr x.2)], [.val (netD N), .val (.tuple (xs.map fr)), .val (.tuple (ys.map fr)), .val (fr x.1.1), .val (fr x.1.2), .val (fr x.2)], rfl, fun hp => ⟨?_, _, _, _, rfl⟩, fun hp => ?_⟩
    · unfold wi at hp
      rw [Bool.and_eq_true, decide_eq_true_eq, decide_eq_true_eq] at hp
      have n1 : ¬ x.2 < x.1.1 := Rat.not_lt.mpr hp.1
      have n2 : ¬ x.1.2 < x.2 := Rat.not_lt.mpr hp.2
      simp [b1_follows, c1, c2, l1, l2, n1, n2]
    · unfold wi at hp
      rw [Bool.and_eq_false_iff, decide_eq_false_iff_not, decide_eq_false_iff_not] at hp
      by_cases n1 : x.2 < x.1.1
      · simp [b1_follows, c1, c2, l1, l2, n1]
      · have n2 : x.1.2 < x.2 := by
          rcases hp with hp | hp
          · exact absurd (Rat.not_lt.mp n1) hp
          · exact Rat.not_le.mp hp
        simp [b1_follows, c1, c2, l1, l2, n1, n2]) ⟨.no, .no, .no, rfl⟩
  simp only [m_follows, runM, g_follows, List.length_cons, List.length_nil, if_true]
  have e1 : ((rngs N xs).zip ys).all wi = follB N xs ys := rfl
  rw [e1] at h
  cases hc : follB N xs ys with
  | true => rw [hc, if_pos rfl] at h; obtain ⟨_, _, _, rfl⟩ := hi hc; simp [startE, h1, hz, h]
  | false => rw [hc, if_neg (fun z => Bool.false_ne_true z)] at h; simp [startE, h1, hz, h]; exact outOf_rt _ _
theorem m_within_eq {p : Rat × Rat} {x : Rat} (h1 : Bq p.1) (h2 : Bq p.2) (hx : Bq x) : m__law_within [sp p, fr x] = some (.ret (.val (.bool (wi (p, x))))) := by
  have b1 := m_below_eq hx h1
  have b2 := m_below_eq h2 hx
  have e : wi (p, x) = (!decide (x < p.1) && !decide (p.2 < x)) := by
    unfold wi
    rw [show decide (p.1 ≤ x) = !decide (x < p.1) by rw [← decide_not]; exact decide_eq_decide.mpr (Rat.not_lt).symm, show decide (x ≤ p.2) = !decide (p.2 < x) by rw [← decide_not]; exact decide_eq_decide.mpr (Rat.not_lt).symm]
  rw [e]
  simp only [m__law_within, runM, g__law_within, List.length_cons, List.length_nil, if_true]
  by_cases c : x < p.1
  · simp [startE, b1, b2, c]
  · simp [startE, b1, b2, c]
theorem m_law_follow_eq (K : NetOk N) (S : SzOk C M N.many xs) (hm : N.many ≤ 1000) {ys : List Rat} (hy : ∀ y ∈ ys, Bq y) (hl : ys.length ≤ 500) : m__law_follow [netD N, .tuple (xs.map fr), .tuple (ys.map fr)] = some (.ret (.val (.bool (follB N xs ys)))) := by
  have h1 := m_law_next_eq K S hm
  have hz := zip_sp (rngs N xs) ys
  have h : lcL (pTup (pCons (pNm 3) (pCons (pNm 4) (pNil)))) (t1__law_follow 0) (vC (.int 1)) [3, 4] (((rngs N xs).zip ys).map zpD) [.val (netD N), .val (.tuple (xs.map fr)), .val (.tuple (ys.map fr)), .no, .no] =
      .ok ((((rngs N xs).zip ys).filter fun x => !wi x).map fun _ => .int 1) [.val (netD N), .val (.tuple (xs.map fr)), .val (.tuple (ys.map fr)), .no, .no] :=
    lcL_keep zpD (fun x => !wi x) (fun _ => .int 1) _ fun x hx => by
      have hx1 := rngs_fx K S _ (List.of_mem_zip hx).1
      have w := m_within_eq (S.bqr hx1.1) (S.bqr hx1.2) (hy _ (List.of_mem_zip hx).2)
      exact ⟨.val (netD N), _, rfl, rfl, by simp [t1__law_follow, w], fun _ => by simp⟩
  have zl : ((rngs N xs).zip ys).length ≤ 500 := by
    rw [List.length_zip]
    omega
  have fl := List.length_filter_le (fun x => !wi x) ((rngs N xs).zip ys)
  have tl := (tell_list (ds := (((rngs N xs).zip ys).filter fun x => !wi x).map fun _ => PyData.int 1) (w := 1921) (h := 0) (fun d hd => by
    obtain ⟨_, _, rfl⟩ := List.mem_map.mp hd
    exact ⟨by show (1 : Int).natAbs.log2 < 1920; decide, Nat.le_refl _, by simp [PyData.depth]⟩) (by rw [List.length_map]; omega) (by decide)).1.1
  have eq := eq_nil_of tl
  have e2 : (((((rngs N xs).zip ys).filter fun x => !wi x).map fun _ => PyData.int 1).isEmpty) = follB N xs ys := by
    unfold follB
    rw [Bool.eq_iff_iff, List.isEmpty_iff, List.map_eq_nil_iff, List.filter_eq_nil_iff, List.all_eq_true]
    simp
  rw [e2] at eq
  have zl6 : min (rngs N xs).length ys.length ≤ 1000000 := by omega
  simp only [m__law_follow, runM, g__law_follow, List.length_cons, List.length_nil, if_true]
  simp [startE, h1, hz, h, zl6, lim_is, noOwn, wipeE, backE, eq]
end
end Fr

namespace Fr
open PySem Mv Sh

/-- a comprehension that draws -/
theorem lcL_draw {α β : Type} {pat : D → En → Option En} {el : M Sl} {vs : List Nat} (a : α → D) (bD : β → D) (P : α → β → Prop) (J : En → Prop) : ∀ (xs : List α), (∀ x ∈ xs, ∀ e, J e → ∃ s es y e3, pat (a x) e = some (s :: es) ∧ vD el (s :: es) = .ok (bD y) e3 ∧ P x y ∧ J (wipeE e3 vs)) → ∀ e, J e →
    ∃ (zs : List (α × β)) (e' : En), lcL pat bYes el vs (xs.map a) e = .ok (zs.map fun z => bD z.2) e' ∧ zs.map (·.1) = xs ∧ (∀ z ∈ zs, P z.1 z.2) ∧ J e'
  | [], _, e, j => ⟨[], e, rfl, rfl, fun _ h => (List.not_mem_nil h).elim, j⟩
  | x :: xs, h, e, j => by
    obtain ⟨s, es, y, e3, h1, h2, h3, h4⟩ := h x List.mem_cons_self e j
    obtain ⟨zs, e', h5, h6, h7, h8⟩ := lcL_draw a bD P J xs (fun z hz => h z (List.mem_cons_of_mem _ hz)) _ h4
    exact ⟨(x, y) :: zs, e', lcL_yes h1 rfl h2 h5, by rw [List.map_cons, h6], fun z hz => by
      rcases List.mem_cons.mp hz with
                                                                                                                    rfl | hz
      · exact h3
      · exact h7 z hz, h8⟩
theorem rng_map (n : Nat) : rngD 0 n = (List.range n).map fun (k : Nat) => PyData.int (k : Int) := by
  unfold rngD
  exact List.map_congr_left fun (k : Nat) _ => by rw [Int.zero_add]
/-! ### sizes that are drawn -/
theorem num_cases {v : Int} (v0 : 0 ≤ v) (v1 : v < 30) {d : D} (h : d ∈ ([.int 1, .int 0, .int 2, .int 3, .int 5, .int 7, .int v] : List D)) : ∃ n : Int, d = .int n ∧ 0 ≤ n ∧ n < 30 := by
  simp only [List.mem_cons, List.not_mem_nil, or_false] at h
  rcases h with rfl | rfl | rfl | rfl | rfl | rfl | rfl
  · exact ⟨_, rfl, by decide, by decide⟩
  · exact ⟨_, rfl, by decide, by decide⟩
  · exact ⟨_, rfl, by decide, by decide⟩
  · exact ⟨_, rfl, by decide, by decide⟩
  · exact ⟨_, rfl, by decide, by decide⟩
  · exact ⟨_, rfl, by decide, by decide⟩
  · exact ⟨_, rfl, v0, v1⟩
theorem den_cases3 {d : D} (h : d ∈ ([.int 1, .int 1, .int 2, .int 3] : List D)) : ∃ (z : Int) (k : Nat), d = .int z ∧ 0 < z ∧ z ≤ 3 ∧ (6 : Int) = z * k ∧ k ≤ 6 := by
  simp only [List.mem_cons, List.not_mem_nil, or_false] at h
  rcases h with rfl | rfl | rfl | rfl
  · exact ⟨_, 6, rfl, by decide, by decide, by decide, by decide⟩
  · exact ⟨_, 6, rfl, by decide, by decide, by decide, by decide⟩
  · exact ⟨_, 3, rfl, by decide, by decide, by decide, by decide⟩
  · exact ⟨_, 2, rfl, by decide, by decide, by decide, by decide⟩
theorem sizes_ok {xs : List D} (hb : BagOk xs) {n : Nat} (hn : n ≤ 1000) : ∃ qs ys, m__law_sizes xs [.int (n : Int)] = some (.ret (.val (.tuple (qs.map fr))), ys) ∧ BagOk ys ∧ SzOk 6 174 n qs := by
  obtain ⟨zs, e', h, h1, h2, y1, rfl, B1⟩ := lcL_draw (pat := pNm 3) (el := e1__law_sizes 0) (vs := [3]) (fun k : Nat => PyData.int (k : Int)) PyData.int (fun _ (v : Int) => 0 ≤ v ∧ v < 30) (fun e => ∃ ys, e = [.own true ys, .val (.int (n : Int)), .no, .no, .no] ∧ BagOk ys) (List.range n) (fun k _ e ⟨ys, he, B⟩ => by
    subst he
    obtain ⟨v, y2, e2, v0, v1, B2⟩ := take_ok B (many := 30) (by decide) (by decide)
    obtain ⟨d, y3, e3, hd, B3⟩ := one_list B2 (ds := [.int 1, .int 0, .int 2, .int 3, .int 5, .int 7, .int v]) (by simp) (by simp)
    obtain ⟨m, rfl, m0, m1⟩ := num_cases v0 v1 hd
    exact ⟨_, _, m, [.own true y3, .val (.int (n : Int)), .no, .val (.int (k : Int)), .no], rfl, by simp [e1__law_sizes, e2, e3, lim_is], ⟨m0, m1⟩, y3, rfl, B3⟩) [.own true xs, .val (.int (n : Int)), .no, .no, .no] ⟨xs, rfl, hb⟩
  have zl : zs.length = n := by
    have := congrArg List.length h1
    rwa [List.length_map, List.length_range] at this
  obtain ⟨ws, e', g, g1, g2, y2, rfl, B2⟩ := lcL_draw (pat := pNm 4) (el := e2__law_sizes 0) (vs := [4]) (fun z : Nat × Int => PyData.int z.2) fr (fun _ (q : Rat) => 0 ≤ q ∧ Fx 6 174 q) (fun e => ∃ ys, e = [.own true ys, .val (.int (n : Int)), .val (.list (zs.map fun z => PyData.int z.2)), .no, .no] ∧ BagOk ys) zs (fun z hz e ⟨ys, he, B⟩ => by
    subst he
    obtain ⟨z0, z1⟩ := h2 z hz
    obtain ⟨d, y3, e3, hd, B3⟩ := one_list B (ds := [.int 1, .int 1, .int 2, .int 3]) (by simp) (by simp)
    obtain ⟨c, k, rfl, c0, c3, hk, k6⟩ := den_cases3 hd
    have r := ratio_k (a := z.2) (z := c) c0 (by omega)
    refine ⟨_, _, Rat.divInt z.2 c, [.own true y3, .val (.int (n : Int)), .val (.list (zs.map fun z => PyData.int z.2)), .no, .val (.int z.2)], rfl, by simp [e2__law_sizes, e3, r, lim_is], ⟨divInt_nn c0 z0, divInt_fx c0 (by decide) hk ?_⟩, y3, rfl, B3⟩
    have : z.2.natAbs ≤ 29 := by omega
    calc z.2.natAbs * k ≤ 29 * 6 := Nat.mul_le_mul this k6
      _ ≤ 174 := by decide) [.own true y1, .val (.int (n : Int)), .val (.list (zs.map fun z => PyData.int z.2)), .no, .no] ⟨y1, rfl, B1⟩
  have wl : ws.length = n := by
    have := congrArg List.length g1
    rw [List.length_map] at this
    omega
  have rng : ∀ e, rngR [.int ((n : Nat) : Int)] e = .ok (rngD 0 n) e := rng_nat (by omega)
  have hr : (rngD 0 n).length = n := rng_len _ _
  rw [← rng_map] at h
  have hn6 : n ≤ 1000000 := by omega
  refine ⟨ws.map (·.2), y2, ?_, B2, by rw [List.length_map]; exact wl, fun q hq => ?_, by decide, up (n := 6) (k := 3) (by decide) (by decide), up (n := 174) (k := 8) (by decide) (by decide)⟩
  · simp only [m__law_sizes, runB, g__law_sizes, List.length_cons, List.length_nil, if_true]
    simp [startE, rng, hr, h, g, hn6, lim_is, noOwn, wipeE, backE, zl, wl, dTuple, Function.comp_def]
  · obtain ⟨w, hw, rfl⟩ := List.mem_map.mp hq
    exact g2 w hw
/-! ### bounds, nets that are drawn -/
def bnds : List Rat := [0, 1, 2, Rat.divInt 1 2, 3, Rat.divInt 1 3, Rat.divInt 3 2, Rat.divInt 5 4, 1, Rat.divInt 1 4]
theorem bnds_fr : bnds.map fr = [.tuple [.int 0, .int 1], .tuple [.int 1, .int 1], .tuple [.int 2, .int 1], .tuple [.int 1, .int 2], .tuple [.int 3, .int 1], .tuple [.int 1, .int 3], .tuple [.int 3, .int 2], .tuple [.int 5, .int 4], .tuple [.int 1, .int 1], .tuple [.int 1, .int 4]] := rfl
def Bnd (q : Rat) : Prop := 0 ≤ q ∧ Fx 12 108 q
theorem bnds_ok : ∀ q ∈ bnds, Bnd q := fun q hq => by
  simp only [bnds, List.mem_cons, List.not_mem_nil, or_false] at hq
  rcases hq with rfl | rfl | rfl | rfl | rfl | rfl | rfl | rfl | rfl | rfl
  · exact ⟨by decide, ⟨0, by decide, rfl⟩⟩
  · exact ⟨by decide, ⟨12, by decide, rfl⟩⟩
  · exact ⟨by decide, ⟨24, by decide, rfl⟩⟩
  · exact ⟨by decide, ⟨6, by decide, rfl⟩⟩
  · exact ⟨by decide, ⟨36, by decide, rfl⟩⟩
  · exact ⟨by decide, ⟨4, by decide, rfl⟩⟩
  · exact ⟨by decide, ⟨18, by decide, rfl⟩⟩
  · exact ⟨by decide, ⟨15, by decide, rfl⟩⟩
  · exact ⟨by decide, ⟨12, by decide, rfl⟩⟩
  · exact ⟨by decide, ⟨3, by decide, rfl⟩⟩
theorem some_bound_ok {xs : List D} (hb : BagOk xs) : ∃ q ys, m__law_some_bound xs [] = some (.ret (.val (fr q)), ys) ∧ BagOk ys ∧ Bnd q := by
  obtain ⟨v, y1, e1, v0, v1, B1⟩ := take_ok hb (many := 10) (by decide) (by decide)
  obtain ⟨w, y2, e2, w0, w1, B2⟩ := take_ok B1 (many := 4) (by decide) (by decide)
  have r := ratio_k (a := v) (z := 1 + w) (by omega) (by omega)
  have ok : Bnd (Rat.divInt v (1 + w)) := by
    refine ⟨divInt_nn (by omega) v0, ?_⟩
    have hw : w = 0 ∨ w = 1 ∨ w = 2 ∨ w = 3 := by omega
    rcases hw with rfl | rfl | rfl | rfl
    · exact divInt_fx (k := 12) (by decide) (by decide) (by decide) (by omega)
    · exact divInt_fx (k := 6) (by decide) (by decide) (by decide) (by omega)
    · exact divInt_fx (k := 4) (by decide) (by decide) (by decide) (by omega)
    · exact divInt_fx (k := 3) (by decide) (by decide) (by decide) (by omega)
  obtain ⟨d, y3, e3, hd, B3⟩ := one_list B2 (ds := (bnds ++ [Rat.divInt v (1 + w)]).map fr) (by simp) (by simp [bnds])
  obtain ⟨q, hq, rfl⟩ :=
                                                                                                                List.mem_map.mp hd
  have ok2 : Bnd q := by
    rcases List.mem_append.mp hq with h | h
    · exact bnds_ok q h
    · rw [List.mem_singleton.mp h]; exact ok
  rw [List.map_append, bnds_fr] at e3
  refine ⟨q, y3, ?_, B3, ok2⟩
  simp only [m__law_some_bound, runB, g__law_some_bound, List.length_cons, List.length_nil, if_true]
  simp at e3
  simp [startE, lim_is, e1, e2, r, e3]
theorem some_span_ok {xs : List D} (hb : BagOk xs) : ∃ p ys, m__law_some_span xs [] = some (.ret (.val (sp p)), ys) ∧ BagOk ys ∧ Span 12 108 p := by
  obtain ⟨a, y1, e1, B1, ha⟩ := some_bound_ok hb
  obtain ⟨b, y2, e2, B2, hb⟩ := some_bound_ok B1
  obtain ⟨v, y3, e3, v0, v1, B3⟩ := take_ok B2 (many := 4) (by decide) (by decide)
  have e4 := m_below_eq (bq12 hb.2) (bq12 ha.2)
  by_cases hv : v = 0
  · refine ⟨(a, a), y3, ?_, B3, ha.1, Rat.le_refl, ha.2, ha.2⟩
    simp only [m__law_some_span, runB, g__law_some_span, List.length_cons, List.length_nil, if_true]
    simp [startE, lim_is, e1, e2, e3, hv, sp]
  · by_cases hlt : b < a
    · refine ⟨(b, a), y3, ?_, B3, hb.1, Rat.le_of_lt hlt, hb.2, ha.2⟩
      simp only [m__law_some_span, runB, g__law_some_span, List.length_cons, List.length_nil, if_true]
      simp [startE, lim_is, e1, e2, e3, hv, e4, hlt, sp]
    · refine ⟨(a, b), y3, ?_, B3, ha.1, Rat.not_lt.mp hlt, ha.2, hb.2⟩
      simp only [m__law_some_span, runB, g__law_some_span, List.length_cons, List.length_nil, if_true]
      simp [startE, lim_is, e1, e2, e3, hv, e4, hlt, sp]
theorem perm_map {α : Type} {a : α → D} {xs : List α} {zs : List D} (h : zs.Perm (xs.map a)) : ∃ ys : List α, zs = ys.map a ∧ ys.Perm xs := by
  induction xs generalizing zs with
  | nil => exact ⟨[], List.perm_nil.mp h, .refl _⟩
  | cons x xs ih =>
    have hx : a x ∈ zs := h.mem_iff.mpr List.mem_cons_self
    obtain ⟨l1, l2, rfl⟩ := List.append_of_mem hx
    have h2 : (l1 ++ l2).Perm (xs.map a) := (List.perm_middle.symm.trans h).cons_inv
    obtain ⟨ys, h3, h4⟩ := ih h2
    have e1 : l1 = (ys.take l1.length).map a := by
      rw [List.map_take, ← h3, List.take_left]
    have e2 : l2 = (ys.drop l1.length).map a := by
      rw [List.map_drop, ← h3, List.drop_left]
    refine ⟨ys.take l1.length ++ x :: ys.drop l1.length, by rw [List.map_append, List.map_cons, ← e1, ← e2], ?_⟩
    refine List.perm_middle.trans ?_
    rw [List.take_append_drop]
    exact h4.cons x
end Fr

namespace Fr
open PySem Mv Sh

def BoxOk (m : Nat) (b : Box) : Prop := b.src < m ∧ b.goal < m ∧ Span 12 108 b.span
theorem box_add (i j : Int) (p : Rat × Rat) : dAdd (.tuple [.int i, .int j]) (sp p) = some (.val (.tuple [.int i, .int j, fr p.1, fr p.2])) := by
  unfold sp
  rw [add_tuples]
  simp [lim_is]
theorem inp_add (i : Int) (p : Rat × Rat) : dAdd (.tuple [.int i]) (sp p) = some (.val (.tuple [.int i, fr p.1, fr p.2])) := by
  unfold sp
  rw [add_tuples]
  simp [lim_is]
theorem net_ok {xs : List D} (hb : BagOk xs) {P Bx : Nat} (hP : 0 < P ∧ P ≤ 18) (hB : Bx ≤ 17) : ∃ N ys, m__law_net xs [.int (P : Int), .int (Bx : Int)] = some (.ret (.val (netD N)), ys) ∧ BagOk ys ∧ NetOk N ∧ 0 < N.many ∧ N.many ≤ P := by
  obtain ⟨v, y1, e1, v0, v1, B1⟩ := take_ok hb (many := (P : Int)) (by omega) (by omega)
  obtain ⟨m, hm⟩ : ∃ m : Nat, v + 1 = (m : Int) := ⟨(v + 1).toNat, by omega⟩
  obtain ⟨t, y2, e2, t0, t1, B2⟩ := take_ok B1 (many := (Bx : Int) + 1) (by omega) (by omega)
  obtain ⟨c, rfl⟩ : ∃ c : Nat, t = (c : Int) := ⟨t.toNat, by omega⟩
  obtain ⟨e', h, y3, bs, s6, rfl, B3, bok, bl⟩ := for_inv (pat := pNm 6) (b := b1__law_net 0) (fun ds e => ∃ (ys : List D) (bs : List Box) (s6 : Sl), e = [.own true ys, .val (.int (P : Int)), .val (.int (Bx : Int)), .val (.int (m : Int)), .own false (bs.map boxD), .own false [], s6, .no] ∧ BagOk ys ∧ (∀ b ∈ bs, BoxOk m b) ∧ bs.length + ds.length ≤ Bx) (fun d ds e ⟨ys, bs, s6, he, B, bok, bl⟩ => by
    subst he
    obtain ⟨i, z1, f1, i0, i1, C1⟩ := take_ok B (many := (m : Int)) (by omega) (by omega)
    obtain ⟨j, z2, f2, j0, j1, C2⟩ := take_ok C1 (many := (m : Int)) (by omega) (by omega)
    obtain ⟨p, z3, f3, C3, hp⟩ := some_span_ok C2
    have ba := box_add i j p
    rw [List.length_cons] at bl
    have bl6 : bs.length < 1000000 := by omega
    refine ⟨_, [.own true z3, .val (.int (P : Int)), .val (.int (Bx : Int)), .val (.int (m : Int)), .own false ((bs ++ [Box.mk i.toNat j.toNat p]).map boxD), .own false [], .val d, .no], rfl, ?_, z3, _, _, rfl, C3, fun b hb => ?_, by rw [List.length_append, List.length_singleton]; omega⟩
    · have hi : (i.toNat : Int) = i := by omega
      have hj : (j.toNat : Int) = j := by omega
      simp [b1__law_net, lim_is, f1, f2, f3, ba, bl6, boxD, hi, hj, List.map_append]
    · rcases List.mem_append.mp hb with
                                                                                                                    hb | hb
      · exact bok b hb
      · rw [(List.mem_singleton.mp hb)]
        exact ⟨by show i.toNat < m; omega, by show j.toNat < m; omega, hp⟩) (rngD 0 c) [.own true y2, .val (.int (P : Int)), .val (.int (Bx : Int)), .val (.int (m : Int)), .own false [], .own false [], .no, .no] ⟨y2, [], .no, rfl, B2, by simp, by rw [rng_len, List.length_nil]; omega⟩
  rw [List.length_nil] at bl
  obtain ⟨w, y4, e4, w0, w1, B4⟩ := take_ok B3 (many := 5) (by decide) (by decide)
  -- one box at times twice
  obtain ⟨bs2, hbs2, b2l⟩ : ∃ bs2 : List Box, bs.map boxD ++ cutD (bs.map boxD) none (some (if w = 0 then 1 else 0)) = bs2.map boxD ∧ bs2.length ≤ 18 ∧ ∀ b ∈ bs2, BoxOk m b := by
    have hc : ∃ k : Nat, k ≤ 1 ∧ (if w = 0 then (1 : Int) else 0) = (k : Int) := by
      by_cases h : w = 0
      · exact ⟨1, by decide, by rw [if_pos h]; rfl⟩
      · exact ⟨0, by decide, by rw [if_neg h]; rfl⟩
    obtain ⟨k, k1, hk⟩ := hc
    refine ⟨bs ++ bs.take k, ?_, ?_, fun b hb => ?_⟩
    · rw [hk, List.map_append, List.map_take]
      congr 1
      unfold cutD
      rw [HT.sIx_none, show HT.sIx _ _ (some (k : Int)) = min k _ from HT.sIx_nat _ _ k]
      rw [List.drop_zero, Nat.sub_zero, List.take_eq_take_iff]
      omega
    · rw [List.length_append, List.length_take]
      omega
    · rcases List.mem_append.mp hb with
                                                                                                                    hb | hb
      · exact bok b hb
      · exact bok b (List.mem_of_mem_take hb)
  obtain ⟨b2l, b2ok⟩ := b2l
  have add : dAdd (.list (bs.map boxD)) (.list (cutD (bs.map boxD) none (some (if w = 0 then 1 else 0)))) = some (.own false (bs2.map boxD)) := by
    rw [add_lists, hbs2]
    have := congrArg List.length hbs2
    rw [List.length_append, List.length_map] at this
    rw [if_pos (by rw [List.length_map, lim_is]; rw [List.length_map] at this; omega)]
  obtain ⟨e', g, y5, ps, s7, rfl, B5, pok, pl⟩ := for_each (pat := pNm 7) (b := b2__law_net 0) (fun k : Nat => PyData.int (k : Int)) (fun ks e => ∃ (ys : List D) (ps : List (Nat × (Rat × Rat))) (s7 : Sl), e = [.own true ys, .val (.int (P : Int)), .val (.int (Bx : Int)), .val (.int (m : Int)), .own false (bs2.map boxD), .own false (ps.map inpD), s6, s7] ∧ BagOk ys ∧ (∀ p ∈ ps, Span 12 108 p.2) ∧ (∃ done, done.length + ks.length = m ∧ (ps.map (·.1)).Sublist done ∧ done ++ ks = List.range m)) (fun k ks e ⟨ys, ps, s7, he, B, pok, done, dl, sub, hr⟩ => by
    subst he
    have pl : ps.length ≤ m := by
      have := sub.length_le
      rw [List.length_map] at this
      omega
    have pl6 : ps.length < 1000000 := by omega
    obtain ⟨i, z1, f1, i0, i1, C1⟩ := take_ok B (many := 2) (by decide) (by decide)
    have hr2 : (done ++ [k]) ++ ks = List.range m := by rw [List.append_assoc]; exact hr
    have dl2 : (done ++ [k]).length + ks.length = m := by rw [List.length_append, List.length_singleton]; rw [List.length_cons] at dl; omega
    by_cases hi : i = 0
    · obtain ⟨p, z2, f2, C2, hp⟩ := some_span_ok C1
      have ia := inp_add (k : Int) p
      refine ⟨_, [.own true z2, .val (.int (P : Int)), .val (.int (Bx : Int)), .val (.int (m : Int)), .own false (bs2.map boxD), .own false ((ps ++ [(k, p)]).map inpD), s6, .val (.int (k : Int))], rfl, ?_, z2, _, _, rfl, C2, fun q hq => ?_, done ++ [k], dl2, ?_, hr2⟩
      · simp [b2__law_net, lim_is, f1, hi, f2, ia, pl6, inpD]
      · rcases List.mem_append.mp hq with
                                                                                                                      hq | hq
        · exact pok q hq
        · rw [List.mem_singleton.mp hq]; exact hp
      · rw [List.map_append]
        exact sub.append (List.Sublist.refl _)
    · refine ⟨_, [.own true z1, .val (.int (P : Int)), .val (.int (Bx : Int)), .val (.int (m : Int)), .own false (bs2.map boxD), .own false (ps.map inpD), s6, .val (.int (k : Int))], rfl, by simp [b2__law_net, f1, hi], z1, ps, _, rfl, C1, pok, done ++ [k], dl2, sub.trans (List.sublist_append_left _ _), hr2⟩) (List.range m) [.own true y4, .val (.int (P : Int)), .val (.int (Bx : Int)), .val (.int (m : Int)), .own false (bs2.map boxD), .own false [], s6, .no] ⟨y4, [], .no, rfl, B4, by simp, [], by simp, by simp, rfl⟩
  obtain ⟨done, dl, sub, hr⟩ := pl
  rw [List.append_nil] at hr
  rw [hr] at sub
  have nd : (ps.map (·.1)).Nodup := sub.nodup List.nodup_range
  have pl : ps.length ≤ m := by
    have := sub.length_le
    rwa [List.length_map, List.length_range] at this
  obtain ⟨z1, y6, e6, P1, B6⟩ := mixed_ok B5 (ds := bs2.map boxD) (.inl rfl) (by rw [List.length_map]; omega)
  obtain ⟨bs3, rfl, Q1⟩ := perm_map P1
  obtain ⟨z2, y7, e7, P2, B7⟩ := mixed_ok B6 (ds := ps.map inpD) (.inl rfl) (by rw [List.length_map]; omega)
  obtain ⟨ps3, rfl, Q2⟩ := perm_map P2
  have rng : ∀ e, rngR [.int (c : Int)] e = .ok (rngD 0 c) e := rng_nat (by omega)
  have rng2 : ∀ e, rngR [.int (m : Int)] e = .ok (rngD 0 m) e := rng_nat (by omega)
  rw [← rng_map] at g
  have l3 := Q1.length_eq
  have l4 := Q2.length_eq
  refine ⟨⟨m, bs3, ps3⟩, y7, ?_, B7, ⟨fun b hb => b2ok b (Q1.mem_iff.mp hb), fun p hp => ?_, ?_, by show bs3.length ≤ 18; omega, by show ps3.length ≤ 18; omega⟩, by show 0 < m; omega, by show m ≤ P; omega⟩
  · simp only [m__law_net, runB, g__law_net, List.length_cons, List.length_nil, if_true]
    simp [startE, lim_is, e1, hm, e2, rng, h, e4, add, rng2, g, e6, e7, dTuple, netD]
  · have hp := Q2.mem_iff.mp hp
    have := List.mem_range.mp (sub.subset (List.mem_map.mpr ⟨p, hp, rfl⟩))
    exact ⟨this, pok p hp⟩
  · exact (Q2.map _).nodup_iff.mpr nd
end Fr

namespace Fr
open PySem Mv Sh

/-! ### numbers between bounds, numbers beyond -/
def parts5 : List Rat := [0, 1, Rat.divInt 1 2, Rat.divInt 1 3, Rat.divInt 3 4]
theorem parts5_ok : ∀ q ∈ parts5, Fx 12 12 q ∧ 0 ≤ q ∧ q ≤ 1 := fun q hq => by
  simp only [parts5, List.mem_cons, List.not_mem_nil, or_false] at hq
  rcases hq with rfl | rfl | rfl | rfl | rfl
  · exact ⟨⟨0, by decide, rfl⟩, by decide, by decide⟩
  · exact ⟨⟨12, by decide, rfl⟩, by decide, by decide⟩
  · exact ⟨⟨6, by decide, rfl⟩, by decide, by decide⟩
  · exact ⟨⟨4, by decide, rfl⟩, by decide, by decide⟩
  · exact ⟨⟨9, by decide, rfl⟩, by decide, by decide⟩
structure Rg (C M : Nat) (p : Rat × Rat) : Prop where
  lo : 0 ≤ p.1
  le : p.1 ≤ p.2
  f1 : Fx C M p.1
  f2 : Fx C M p.2
structure Lim (C M : Nat) : Prop where
  c0 : 0 < C
  c1 : C < 2 ^ 180
  m1 : M < 2 ^ 180
theorem Lim.bq {C M : Nat} (L : Lim C M) {q : Rat} (h : Fx C M q) : Bq q := h.bq ⟨L.c0, up L.c1 (by decide)⟩ (up L.m1 (by decide))
theorem Rg.b1 {C M : Nat} {p : Rat × Rat} (L : Lim C M) (h : Rg C M p) : Bq p.1 := L.bq h.f1
theorem Rg.b2 {C M : Nat} {p : Rat × Rat} (L : Lim C M) (h : Rg C M p) : Bq p.2 := L.bq h.f2
theorem low_le_tot {N M : Nat} {ss : List (Rat × Rat)} (S : Spans N M ss) : low ss ≤ tot ss := by
  have t0 : 0 ≤ tot ss := sumQ_nn fun q hq => by
    obtain ⟨p, hp, rfl⟩ :=
                                                                                                                  List.mem_map.mp hq
    exact (S.all p hp).g0
  refine (maxQ_le _ _).mpr ⟨t0, fun r hr => ?_⟩
  obtain ⟨p, hp, rfl⟩ := List.mem_map.mp hr
  have P := S.all p hp
  have : p.2 ≤ tot ss := sumQ_ge (fun x hx => by
    obtain ⟨q, hq, rfl⟩ := List.mem_map.mp hx
    exact (S.all q hq).g0) _ (List.mem_map.mpr ⟨p, hp, rfl⟩)
  have := P.le
  unfold leftOf
  grind
theorem SzOk.lim {C M n : Nat} {xs : List Rat} (S : SzOk C M n xs) : Lim (12 * C) (102 * MM C M) := ⟨by have := S.c0; omega, up S.mm.1 (by decide), up (mul_lt (a := 102) (n := 7) (by decide) S.mm.2) (by decide)⟩
theorem rngs_rg {N : Net} {xs : List Rat} {C M : Nat} (K : NetOk N) (S : SzOk C M N.many xs) : ∀ p ∈ rngs N xs, Rg (12 * C) (102 * MM C M) p := fun p hp => by
  obtain ⟨h1, h2⟩ := rngs_fx K S p hp
  obtain ⟨k, _, rfl⟩ := List.mem_map.mp hp
  exact ⟨low_nn2 _, low_le_tot (K.spans (k := k) S), h1, h2⟩
theorem rngs_len (N : Net) (xs : List Rat) : (rngs N xs).length = N.many := by unfold rngs; rw [List.length_map, List.length_range]
theorem mean_ok {xs : List D} (hb : BagOk xs) {C M : Nat} (L : Lim C M) {p : Rat × Rat} (h : Rg C M p) : ∃ q ys, m__law_mean xs [sp p] = some (.ret (.val (fr q)), ys) ∧ BagOk ys ∧ wi (p, q) = true ∧ Fx (C * 12) (M * 36) q := by
  obtain ⟨d, y1, e1, hd, B1⟩ := one_list hb (ds := parts5.map fr) (by simp [parts5]) (by simp [parts5])
  obtain ⟨c, hc, rfl⟩ := List.mem_map.mp hd
  obtain ⟨fc, c0, c1⟩ := parts5_ok c hc
  have e1 : m__law_one xs [.list [.tuple [.int 0, .int 1], .tuple [.int 1, .int 1], .tuple [.int 1, .int 2], .tuple [.int 1, .int 3], .tuple [.int 3, .int 4]]] = _ := e1
  have m1 := m_minus_eq (h.b2 L) (h.b1 L)
  have fm : Fx C (2 * M) (p.2 - p.1) := (h.f2.sub h.f1).mono (by omega)
  have lm : 2 * M < 2 ^ 181 := by
    have := L.m1
    have e : 2 ^ 181 = 2 * 2 ^ 180 := by decide
    omega
  have bm : Bq (p.2 - p.1) := fm.bq ⟨L.c0, up L.c1 (by decide)⟩ (up lm (by decide))
  have bc : Bq c := fc.bq n12 (up (n := 12) (k := 4) (by decide) (by decide))
  have m2 := m_by_eq bc bm
  have f2 : Fx (C * 12) (24 * M) (c * (p.2 - p.1)) := by
    have := fc.mul fm
    rw [Nat.mul_comm 12 C] at this
    exact this.mono (by omega)
  have f1 : Fx (C * 12) (24 * M) p.1 := (h.f1.fine 12 (by decide)).mono (by omega)
  have c12 : C * 12 < 2 ^ 184 := mul_lt (n := 180) (m := 4) L.c1 (by decide)
  have m24 : 24 * M < 2 ^ 185 := mul_lt (n := 5) (m := 180) (by decide) L.m1
  have m3 := plus2 (N := C * 12) (M := 24 * M) (by have := L.c0; omega) (up c12 (by decide)) (up m24 (by decide)) f1 f2
  have nn : 0 ≤ c * (p.2 - p.1) := Rat.mul_nonneg c0 (by have := h.le; grind)
  have le : c * (p.2 - p.1) ≤ 1 * (p.2 - p.1) := Rat.mul_le_mul_of_nonneg_right c1 (by have := h.le; grind)
  refine ⟨p.1 + c * (p.2 - p.1), y1, ?_, B1, ?_, (((h.f1.fine 12 (by decide))).add f2).mono (by omega)⟩
  · simp only [m__law_mean, runB, g__law_mean, List.length_cons, List.length_nil, if_true]
    simp [startE, lim_is, e1, m1, m2, m3, sp]
  · unfold wi
    rw [Bool.and_eq_true,
                                                                                                                  decide_eq_true_eq, decide_eq_true_eq]
    exact ⟨by grind, by grind⟩
def lessen : List Rat := [Rat.divInt 99 100, Rat.divInt 1 2, 0]
theorem lessen_ok : ∀ q ∈ lessen, Fx 100 100 q ∧ 0 ≤ q ∧ q < 1 := fun q hq => by
  simp only [lessen, List.mem_cons, List.not_mem_nil, or_false] at hq
  rcases hq with rfl | rfl | rfl
  · exact ⟨⟨99, by decide, rfl⟩, by decide, by decide⟩
  · exact ⟨⟨50, by decide, rfl⟩, by decide, by decide⟩
  · exact ⟨⟨0, by decide, rfl⟩, by decide, by decide⟩
def more3 : List Rat := [Rat.divInt 1 100, 1, Rat.divInt 7 2]
theorem more3_ok : ∀ q ∈ more3, Fx 100 350 q ∧ 0 < q := fun q hq => by
  simp only [more3, List.mem_cons, List.not_mem_nil, or_false] at hq
  rcases hq with rfl | rfl | rfl
  · exact ⟨⟨1, by decide, rfl⟩, by decide⟩
  · exact ⟨⟨100, by decide, rfl⟩, by decide⟩
  · exact ⟨⟨350, by decide, rfl⟩, by decide⟩
theorem num_pos_iff (q : Rat) : 0 < q.num ↔ 0 < q := by
  have h1 := Rat.num_nonneg (q := q)
  have h2 := Rat.num_nonneg (q := -q)
  rw [Rat.neg_num] at h2
  constructor
  · intro h
    refine Rat.not_le.mp fun z => ?_
    have : 0 ≤ -q := by grind
    have := h2.mpr this
    omega
  · intro h
    refine Int.not_le.mp fun z => ?_
    have := h2.mp (by omega)
    grind
theorem not_all {ps : List (Rat × Rat)} {ys : List Rat} {k : Nat} {p : Rat × Rat} {x : Rat} (hp : ps[k]? = some p) (hk : k < ys.length) (h : wi (p, x) = false) : ((ps.zip (ys.set k x)).all wi) = false := by
  rw [List.all_eq_false]
  refine ⟨(p, x), List.mem_of_getElem? (i := k) ?_, by rw [h]; exact Bool.false_ne_true⟩
  rw [List.getElem?_zip_eq_some]
  exact ⟨hp, by rw [List.getElem?_set_self hk]⟩
theorem beyond_ok {xs : List D} (hb : BagOk xs) {C M : Nat} (L : Lim C M) {ps : List (Rat × Rat)} {ys : List Rat} (hp : ∀ p ∈ ps, Rg C M p) (hy : ∀ y ∈ ys, Bq y) (hl : ys.length = ps.length) (h1 : 0 < ps.length ∧ ps.length ≤ 1000) :
    ∃ zs us, m__law_beyond xs [.list (ps.map sp), .tuple (ys.map fr)] = some (.ret (.val (.tuple (zs.map fr))), us) ∧ BagOk us ∧ (∀ z ∈ zs, Bq z) ∧ (ps.zip zs).all wi = false := by
  obtain ⟨ws, y1, e1, P, B1⟩ := mixed_ok hb (ds := rngD 0 ys.length) (.inl rfl) (by rw [rng_len]; omega)
  rw [rng_map] at P
  obtain ⟨ks, rfl, Q⟩ := perm_map P
  have kl := Q.length_eq
  rw [List.length_range] at kl
  match ks, Q, kl with
  | [], _, kl => rw [List.length_nil] at kl; omega
  | k :: ks, Q, kl =>
    have hk : k < ps.length := by
      have := List.mem_range.mp (Q.mem_iff.mp List.mem_cons_self)
      omega
    have hg := List.getElem?_eq_getElem hk
    have R := hp _ (List.getElem_mem hk)
    have ix := ix_sp hg
    generalize ps[k] = p at *
    have ixn : L2.ixN ys.length (k : Int) = some k := ix_nat (by omega)
    have lr : vListR = vListR := rfl
    have nn : (0 < p.1.num) = (0 < p.1) := propext (num_pos_iff _)
    obtain ⟨v, y2, e2, v0, v1, B2⟩ := take_ok B1 (many := 2) (by decide) (by decide)
    have key : ∃ (x : Rat) (us : List D), Bq x ∧ wi (p, x) = false ∧ BagOk us ∧ ∀ s5 s6 s7 : Sl, ∃ e', b1__law_beyond 0 [.own true y1, .val (.list (ps.map sp)), .val (.tuple (ys.map fr)), .own false (ys.map fr), .val (.list ((k :: ks).map fun k : Nat => PyData.int (k : Int))), .val (.int (k : Int)), s6, s7] = .ok (.rt (.val (.tuple ((ys.set k x).map fr)))) (.own true us :: e') := by
      have up1 : ∀ v : Int, v = 0 ∨ v ≠ 0 := fun v => Classical.em _
      have more : ∀ (yy : List D), BagOk yy → ∃ (x : Rat) (us : List D), Bq x ∧ wi (p, x) = false ∧ BagOk us ∧ ∃ c, m__law_one yy [.list [.tuple [.int 1, .int 100], .tuple [.int 1, .int 1], .tuple [.int 7, .int 2]]] = some (.ret (.val (fr c)), us) ∧ m__law_plus [.list [fr p.2, fr c]] = some (.ret (.val (fr x))) := fun yy B => by
        obtain ⟨d, y3, e3, hd, B3⟩ := one_list B (ds := more3.map fr) (by simp [more3]) (by simp [more3])
        obtain ⟨c, hc, rfl⟩ := List.mem_map.mp hd
        obtain ⟨fc, c0⟩ := more3_ok c hc
        have f1 : Fx (C * 100) (M * 100) p.2 := R.f2.fine 100 (by decide)
        have f2 : Fx (C * 100) (350 * C) c := by
          have := fc.fine C L.c0
          rwa [Nat.mul_comm 100 C] at this
        have cl : C * 100 < 2 ^ 187 := mul_lt (n := 180) (m := 7) L.c1 (by decide)
        have ml : M * 100 + 350 * C < 2 ^ 191 := by
          have a1 := L.c1
          have a2 := L.m1
          have e : 2 ^ 191 = 2048 * 2 ^ 180 := by decide
          omega
        have m3 := plus2 (N := C * 100) (M := M * 100 + 350 * C) (by have := L.c0; omega) (up cl (by decide)) (up ml (by decide)) (f1.mono (by omega)) (f2.mono (by omega))
        refine ⟨p.2 + c, y3, (f1.add f2).bq ⟨by have := L.c0; omega, up cl (by decide)⟩ (up ml (by decide)), ?_, B3, c, e3, m3⟩
        unfold wi
        rw [Bool.and_eq_false_iff, decide_eq_false_iff_not, decide_eq_false_iff_not]
        exact .inr (by grind)
      by_cases hpos : 0 < p.1
      · by_cases hv : v = 0
        · obtain ⟨d, y3, e3, hd, B3⟩ := one_list B2 (ds := lessen.map fr) (by simp [lessen]) (by simp [lessen])
          obtain ⟨c, hc, rfl⟩ := List.mem_map.mp hd
          obtain ⟨fc, c0, c1⟩ := lessen_ok c hc
          have e3 : m__law_one y2 [.list [.tuple [.int 99, .int 100], .tuple [.int 1, .int 2], .tuple [.int 0, .int 1]]] = _ := e3
          have bc : Bq c := fc.bq ⟨by decide, up (n := 100) (k := 7) (by decide) (by decide)⟩ (up (n := 100) (k := 7) (by decide) (by decide))
          have m2 := m_by_eq (R.b1 L) bc
          have lt : p.1 * c < p.1 := by
            have := Rat.mul_lt_mul_of_pos_left c1 hpos
            rwa [Rat.mul_one] at this
          refine ⟨p.1 * c, y3, (R.f1.mul fc).bq ⟨by have := L.c0; omega, up (mul_lt (n := 180) (m := 7) L.c1 (by decide)) (by decide)⟩ (up (mul_lt (n := 180) (m := 7) L.m1 (by decide)) (by decide)), ?_, B3, fun s5 s6 s7 => ?_⟩
          · unfold wi
            rw [Bool.and_eq_false_iff, decide_eq_false_iff_not]
            exact .inl (Rat.not_le.mpr lt)
          · have hpos' : 0 < p.1.num := by rw [nn]; exact hpos
            refine ⟨_, by simp [b1__law_beyond, ix, sp, hpos', e2, hv, e3, m2, lim_is, ixn, List.map_set, dTuple]; rfl⟩
        · obtain ⟨x, us, bx, wx, B3, c, e3, m3⟩ := more y2 B2
          refine ⟨x, us, bx, wx, B3, fun s5 s6 s7 => ?_⟩
          have hpos' : 0 < p.1.num := by rw [nn]; exact hpos
          refine ⟨_, by simp [b1__law_beyond, ix, sp, hpos', e2, hv, e3, m3, lim_is, ixn, List.map_set, dTuple]; rfl⟩
      · obtain ⟨x, us, bx, wx, B3, c, e3, m3⟩ := more y1 B1
        refine ⟨x, us, bx, wx, B3, fun s5 s6 s7 => ?_⟩
        have hpos' : ¬ 0 < p.1.num := by rw [nn]; exact hpos
        refine ⟨_, by simp [b1__law_beyond, ix, sp, hpos', e3, m3, lim_is, ixn, List.map_set, dTuple]; rfl⟩
    obtain ⟨x, us, bx, wx, B3, run⟩ := key
    refine ⟨ys.set k x, us, ?_, B3, fun z hz => ?_, not_all hg (by omega) wx⟩
    · obtain ⟨e', run⟩ := run .no .no .no
      have yl : ys.length ≤ 1000000 := by omega
      have yl2 : ys.length < 1000000000 := by omega
      have fl : forL (pNm 5) (b1__law_beyond 0) ((k :: ks).map fun k : Nat => PyData.int (k : Int)) [.own true y1, .val (.list (ps.map sp)), .val (.tuple (ys.map fr)), .own false (ys.map fr), .val (.list ((k :: ks).map fun k : Nat => PyData.int (k : Int))), .no, .no, .no] = .ok (.rt (.val (.tuple ((ys.set k x).map fr)))) (.own true us :: e') := by
        rw [List.map_cons, forL]
        have h0 : pNm 5 (.int (k : Int)) [.own true y1, .val (.list (ps.map sp)), .val (.tuple (ys.map fr)), .own false (ys.map fr), .val (.list ((k :: ks).map fun k : Nat => PyData.int (k : Int))), .no, .no, .no] = some [.own true y1, .val (.list (ps.map sp)), .val (.tuple (ys.map fr)), .own false (ys.map fr), .val (.list ((k :: ks).map fun k : Nat => PyData.int (k : Int))), .val (.int (k : Int)), .no, .no] := rfl
        rw [List.map_cons] at h0 run
        rw [h0]
        dsimp only
        rw [run]
      simp only [m__law_beyond, runB, g__law_beyond, List.length_cons, List.length_nil, if_true]
      rw [List.map_cons] at fl e1
      simp [startE, lim_is, e1, fl, dTuple, vListR, yl, yl2]
    · rcases List.mem_or_eq_of_mem_set hz with h | rfl
      · exact hy z h
      · exact bx
end Fr

namespace Fr
open PySem Mv Sh

/-! ### what any value is -/
section
variable (f : M Sl) (s : Sl) (es : List Sl) (i : Nat)
@[simp] theorem e_dic0 : vDic0 (s :: es) = .ok (.val (.dict [])) (s :: es) := rfl
@[simp] theorem e_dic1 (k : L2.Key) (d : D) : vDic1 k d (s :: es) = .ok (.val (.dict [(keyD k, d)])) (s :: es) := rfl
@[simp] theorem e_ext : sExt i f (s :: es) = ownAt i (s :: es) fun _ _ => (vD f (s :: es)).bind fun d e => ownAt i e fun b xs => match d with
  | .list ys => if xs.length + ys.length ≤ LIM then .ok .nx (e.set i (.own b (xs ++ ys))) else .bad
  | _ => .bad := rfl
end
@[simp] theorem rev_list (xs : List D) : dRev (.list xs) = some (.own false xs.reverse) := rfl
@[simp] theorem rev_tuple (xs : List D) : dRev (.tuple xs) = some (.val (.tuple xs.reverse)) := rfl
@[simp] theorem bool_int (i : Int) : dBool [.int i] = some (.val (.bool (i != 0))) := rfl
def isTup : D → Bool
  | .tuple _ => true
  | _ => false
def isLst : D → Bool
  | .list _ => true
  | _ => false
def isInt : D → Bool
  | .int _ => true
  | _ => false
def isBool : D → Bool
  | .bool _ => true
  | _ => false
def isIntB : D → Bool
  | .int _ | .bool _ => true
  | _ => false
theorem kit_NoneType_tuple : L2.kitB "NoneType" "tuple" = some false := by decide +kernel
theorem kit_bool_tuple : L2.kitB "bool" "tuple" = some false := by decide +kernel
theorem kit_int_tuple : L2.kitB "int" "tuple" = some false := by decide +kernel
theorem kit_str_tuple : L2.kitB "str" "tuple" = some false := by decide +kernel
theorem kit_list_tuple : L2.kitB "list" "tuple" = some false := by decide +kernel
theorem kit_tuple_tuple : L2.kitB "tuple" "tuple" = some true := by decide +kernel
theorem kit_dict_tuple : L2.kitB "dict" "tuple" = some false := by decide +kernel
@[simp] theorem isi_tuple (d : D) : isiD "tuple" d = some (.val (.bool (isTup d))) := by
  unfold isiD
  cases d with
  | none => (show Option.map _ (L2.kitB "NoneType" "tuple") = _; rw [kit_NoneType_tuple]; rfl)
  | bool _ => (show Option.map _ (L2.kitB "bool" "tuple") = _; rw [kit_bool_tuple]; rfl)
  | int _ => (show Option.map _ (L2.kitB "int" "tuple") = _; rw [kit_int_tuple]; rfl)
  | str _ => (show Option.map _ (L2.kitB "str" "tuple") = _; rw [kit_str_tuple]; rfl)
  | list _ => (show Option.map _ (L2.kitB "list" "tuple") = _; rw [kit_list_tuple]; rfl)
  | tuple _ => (show Option.map _ (L2.kitB "tuple" "tuple") = _; rw [kit_tuple_tuple]; rfl)
  | dict _ => (show Option.map _ (L2.kitB "dict" "tuple") = _; rw [kit_dict_tuple]; rfl)
theorem kit_NoneType_list : L2.kitB "NoneType" "list" = some false := by decide +kernel
theorem kit_bool_list : L2.kitB "bool" "list" = some false := by decide +kernel
theorem kit_int_list : L2.kitB "int" "list" = some false := by decide +kernel
theorem kit_str_list : L2.kitB "str" "list" = some false := by decide +kernel
theorem kit_list_list : L2.kitB "list" "list" = some true := by decide +kernel
theorem kit_tuple_list : L2.kitB "tuple" "list" = some false := by decide +kernel
theorem kit_dict_list : L2.kitB "dict" "list" = some false := by decide +kernel
@[simp] theorem isi_list (d : D) : isiD "list" d = some (.val (.bool (isLst d))) := by
  unfold isiD
  cases d with
  | none => (show Option.map _ (L2.kitB "NoneType" "list") = _; rw [kit_NoneType_list]; rfl)
  | bool _ => (show Option.map _ (L2.kitB "bool" "list") = _; rw [kit_bool_list]; rfl)
  | int _ => (show Option.map _ (L2.kitB "int" "list") = _; rw [kit_int_list]; rfl)
  | str _ => (show Option.map _ (L2.kitB "str" "list") = _; rw [kit_str_list]; rfl)
  | list _ => (show Option.map _ (L2.kitB "list" "list") = _; rw [kit_list_list]; rfl)
  | tuple _ => (show Option.map _ (L2.kitB "tuple" "list") = _; rw [kit_tuple_list]; rfl)
  | dict _ => (show Option.map _ (L2.kitB "dict" "list") = _; rw [kit_dict_list]; rfl)
theorem kit_NoneType_int : L2.kitB "NoneType" "int" = some false := by decide +kernel
theorem kit_bool_int : L2.kitB "bool" "int" = some true := by decide +kernel
theorem kit_int_int : L2.kitB "int" "int" = some true := by decide +kernel
theorem kit_str_int : L2.kitB "str" "int" = some false := by decide +kernel
theorem kit_list_int : L2.kitB "list" "int" = some false := by decide +kernel
theorem kit_tuple_int : L2.kitB "tuple" "int" = some false := by decide +kernel
theorem kit_dict_int : L2.kitB "dict" "int" = some false := by decide +kernel
@[simp] theorem isi_int (d : D) : isiD "int" d = some (.val (.bool (isIntB d))) := by
  unfold isiD
  cases d with
  | none => (show Option.map _ (L2.kitB "NoneType" "int") = _; rw [kit_NoneType_int]; rfl)
  | bool _ => (show Option.map _ (L2.kitB "bool" "int") = _; rw [kit_bool_int]; rfl)
  | int _ => (show Option.map _ (L2.kitB "int" "int") = _; rw [kit_int_int]; rfl)
  | str _ => (show Option.map _ (L2.kitB "str" "int") = _; rw [kit_str_int]; rfl)
  | list _ => (show Option.map _ (L2.kitB "list" "int") = _; rw [kit_list_int]; rfl)
  | tuple _ => (show Option.map _ (L2.kitB "tuple" "int") = _; rw [kit_tuple_int]; rfl)
  | dict _ => (show Option.map _ (L2.kitB "dict" "int") = _; rw [kit_dict_int]; rfl)
theorem kit_NoneType_bool : L2.kitB "NoneType" "bool" = some false := by decide +kernel
theorem kit_bool_bool : L2.kitB "bool" "bool" = some true := by decide +kernel
theorem kit_int_bool : L2.kitB "int" "bool" = some false := by decide +kernel
theorem kit_str_bool : L2.kitB "str" "bool" = some false := by decide +kernel
theorem kit_list_bool : L2.kitB "list" "bool" = some false := by decide +kernel
theorem kit_tuple_bool : L2.kitB "tuple" "bool" = some false := by decide +kernel
theorem kit_dict_bool : L2.kitB "dict" "bool" = some false := by decide +kernel
@[simp] theorem isi_bool (d : D) : isiD "bool" d = some (.val (.bool (isBool d))) := by
  unfold isiD
  cases d with
  | none => (show Option.map _ (L2.kitB "NoneType" "bool") = _; rw [kit_NoneType_bool]; rfl)
  | bool _ => (show Option.map _ (L2.kitB "bool" "bool") = _; rw [kit_bool_bool]; rfl)
  | int _ => (show Option.map _ (L2.kitB "int" "bool") = _; rw [kit_int_bool]; rfl)
  | str _ => (show Option.map _ (L2.kitB "str" "bool") = _; rw [kit_str_bool]; rfl)
  | list _ => (show Option.map _ (L2.kitB "list" "bool") = _; rw [kit_list_bool]; rfl)
  | tuple _ => (show Option.map _ (L2.kitB "tuple" "bool") = _; rw [kit_tuple_bool]; rfl)
  | dict _ => (show Option.map _ (L2.kitB "dict" "bool") = _; rw [kit_dict_bool]; rfl)
@[simp] theorem isInt_i (i : Int) : isInt (.int i) = true := rfl
theorem cast_one (g : Nat) : ((g : Int) = 1) = (g = 1) := propext (by omega)
@[simp] theorem isTup_fr (q : Rat) : isTup (fr q) = true := rfl
@[simp] theorem isTup_sp (p : Rat × Rat) : isTup (sp p) = true := rfl
@[simp] theorem isTup_t (ds : List D) : isTup (.tuple ds) = true := rfl
@[simp] theorem isLst_l (ds : List D) : isLst (.list ds) = true := rfl
theorem eq_nil_any (ds : List D) : dEq (.list ds) (.list []) = some (.val (.bool ds.isEmpty)) := by
  by_cases h : SeqAt.shaped (.list ds) = true
  · exact eq_nil_of h
  · cases ds with
    | nil => exact absurd shaped_nil h
    | cons d ds =>
      rw [dEq]
      · rw [if_neg (fun z => h z.1)]
        rfl
      · intro _ _ z; cases z
theorem ne_nil_any (ds : List D) : dNe (.list ds) (.list []) = some (.val (.bool (!ds.isEmpty))) := by
  by_cases h : SeqAt.shaped (.list ds) = true
  · exact ne_nil_of h
  · cases ds with
    | nil => exact absurd shaped_nil h
    | cons d ds =>
      rw [dNe]
      · rw [if_neg (fun z => h z.1)]
        rfl
      · intro _ _ z; cases z
/-! ### FRACTIONS, SIZES among any values -/
mutual
/-- numbers that are not too long -/
def Sml : D → Prop
  | .int i => i.natAbs < 2 ^ 4000
  | .list xs => Smls xs
  | .tuple xs => Smls xs
  | _ => True
def Smls : List D → Prop
  | [] => True
  | x :: xs => Sml x ∧ Smls xs
end
theorem smls_iff : ∀ {xs : List D}, Smls xs ↔ ∀ x ∈ xs, Sml x
  | [] => by simp [Smls]
  | x :: xs => by simp [Smls, smls_iff (xs := xs)]
def frB : D → Bool
  | .tuple [.int a, .int b] => decide (0 < b) && decide (Nat.gcd a.natAbs b.natAbs = 1)
  | _ => false
theorem m_integer_any (d : D) : m__law_integer [d] = some (.ret (.val (.bool (isInt d)))) := by
  simp only [m__law_integer, runM, g__law_integer, List.length_cons, List.length_nil, if_true]
  cases d <;> simp [startE, isIntB, isBool, isInt]
theorem m_is_integer_any (d : D) : m_is_integer [d] = some (.ret (.val (.bool (isInt d)))) := by
  simp only [m_is_integer, runM, g_is_integer, List.length_cons, List.length_nil, if_true]
  cases d <;> simp [startE, isIntB, isBool, isInt]
theorem frB_ni {x y : D} (h : ¬ (isInt x = true ∧ isInt y = true)) : frB (.tuple [x, y]) = false := by
  cases x <;> first | rfl | (cases y <;> first | rfl | exact absurd ⟨rfl, rfl⟩ h)
theorem isInt_of {x : D} (h : isInt x = true) : ∃ i, x = .int i := by
  cases x <;> first | exact ⟨_, rfl⟩ | cases h
theorem m_fraction_any {d : D} (h : Sml d) : m__law_is_fraction [d] = some (.ret (.val (.bool (frB d)))) := by
  have hm := m_integer_any
  simp only [m__law_is_fraction, runM, g__law_is_fraction, List.length_cons, List.length_nil, if_true]
  match d, h with
  | .none, _ => simp [startE, isTup, frB]
  | .bool _, _ => simp [startE, isTup, frB]
  | .int _, _ => simp [startE, isTup, frB]
  | .str _, _ => simp [startE, isTup, frB]
  | .list _, _ => simp [startE, isTup, frB]
  | .dict _, _ => simp [startE, isTup, frB]
  | .tuple [], _ => simp [startE, isTup, frB]
  | .tuple [_], _ => simp [startE, isTup, frB]
  | .tuple (_ :: _ :: _ :: l), _ =>
    have : ¬ ((l.length : Int) + 1 + 1 + 1 = 2) := by omega
    simp [startE, isTup, frB, this]
  | .tuple [x, y], h =>
    by_cases hx : isInt x = true
    · obtain ⟨i, rfl⟩ := isInt_of hx
      by_cases hy : isInt y = true
      · obtain ⟨j, rfl⟩ := isInt_of hy
        have hg := m_shared_eq i j
        by_cases hj : 0 < j
        · simp [startE, isTup, frB, hm, hg, hj, cast_one]
        · simp [startE, isTup, frB, hm, hj]
      · have hf := frB_ni (x := .int i) (y := y) (fun z => hy z.2)
        simp [startE, isTup, hf, hm, hy]
    · have hf := frB_ni (x := x) (y := y) (fun z => hx z.1)
      simp [startE, isTup, hf, hm, hx]
/-- the length of a tuple -/
def tlen : D → Int
  | .tuple xs => xs.length
  | _ => 0
theorem m_tuple_of_any (e : D) (n : Int) : m_is_tuple_of [e, .int n] = some (.ret (.val (.bool (isTup e && decide (tlen e = n))))) := by
  simp only [m_is_tuple_of, runM, g_is_tuple_of, List.length_cons, List.length_nil, if_true]
  cases e <;> simp [startE, isTup, tlen]
  exact decide_eq_decide.mpr Iff.rfl
theorem m_is_fraction_any {d : D} (h : Sml d) : m_is_fraction [d] = some (.ret (.val (.bool (frB d)))) := by
  have hm := m_is_integer_any
  have ht : ∀ (e : D) (n : Int), m_is_tuple_of [e, .int n] = some (.ret (.val (.bool (isTup e && decide (tlen e = n))))) := m_tuple_of_any
  simp only [m_is_fraction, runM, g_is_fraction, List.length_cons, List.length_nil, if_true]
  match d, h with
  | .none, _ => simp [startE, isTup, frB, ht]
  | .bool _, _ => simp [startE, isTup, frB, ht]
  | .int _, _ => simp [startE, isTup, frB, ht]
  | .str _, _ => simp [startE, isTup, frB, ht]
  | .list _, _ => simp [startE, isTup, frB, ht]
  | .dict _, _ => simp [startE, isTup, frB, ht]
  | .tuple [], _ => simp [startE, isTup, frB, ht, tlen]
  | .tuple [_], _ => simp [startE, isTup, frB, ht, tlen]
  | .tuple (_ :: _ :: _ :: l), _ =>
    have : ¬ ((l.length : Int) + 1 + 1 + 1 = 2) := by omega
    simp [startE, isTup, frB, ht, tlen, this]
  | .tuple [x, y], h =>
    by_cases hx : isInt x = true
    · obtain ⟨i, rfl⟩ := isInt_of hx
      by_cases hy : isInt y = true
      · obtain ⟨j, rfl⟩ := isInt_of hy
        by_cases hj : 0 < j
        · obtain ⟨k, rfl⟩ : ∃ k : Nat, j = (k : Int) := ⟨j.toNat, by omega⟩
          have hg := m_common_eq i.natAbs k
          have hk : 0 < k := by omega
          simp [startE, isTup, frB, hm, ht, tlen, hg, hk, cast_one]
        · simp [startE, isTup, frB, hm, ht, tlen, hj]
      · have hf := frB_ni (x := .int i) (y := y) (fun z => hy z.2)
        simp [startE, isTup, hf, hm, hy, ht, tlen]
    · have hf := frB_ni (x := x) (y := y) (fun z => hx z.1)
      simp [startE, isTup, hf, hm, hx, ht, tlen]
end Fr

namespace Fr
open PySem Mv Sh

theorem frB_fr {d : D} (h : frB d = true) : ∃ q : Rat, d = fr q := by
  match d, h with
  | .tuple [.int a, .int b], h =>
    have h : (decide (0 < b) && decide (Nat.gcd a.natAbs b.natAbs = 1)) = true := h
    rw [Bool.and_eq_true, decide_eq_true_eq, decide_eq_true_eq] at h
    obtain ⟨k, rfl⟩ : ∃ k : Nat, b = (k : Int) := ⟨b.toNat, by omega⟩
    exact ⟨⟨a, k, by omega, h.2⟩, rfl⟩
theorem fr_frB (q : Rat) : frB (fr q) = true := by
  show (decide ((0 : Int) < q.den) && decide (Nat.gcd q.num.natAbs (q.den : Int).natAbs = 1)) = true
  have := q.den_pos
  have h2 : Nat.gcd q.num.natAbs (q.den : Int).natAbs = 1 := q.reduced
  rw [Bool.and_eq_true,
                                                                                                                decide_eq_true_eq, decide_eq_true_eq]
  exact ⟨by omega, h2⟩
/-- a fraction from 0 on -/
def nnB : D → Bool
  | .tuple [.int a, .int b] => frB (.tuple [.int a, .int b]) && decide (0 ≤ a)
  | _ => false
theorem nnB_fr (q : Rat) : nnB (fr q) = decide (0 ≤ q) := by
  show (frB (fr q) && decide (0 ≤ q.num)) = _
  rw [fr_frB, Bool.true_and]
  exact decide_eq_decide.mpr Rat.num_nonneg
theorem nnB_no {d : D} (h : frB d = false) : nnB d = false := by
  unfold nnB
  split
  · rw [h, Bool.false_and]
  · rfl
theorem nnB_of {d : D} (h : nnB d = true) : ∃ q : Rat, d = fr q ∧ 0 ≤ q := by
  cases hf : frB d with
  | false => rw [nnB_no hf] at h; cases h
  | true =>
    obtain ⟨q, rfl⟩ := frB_fr hf
    rw [nnB_fr, decide_eq_true_eq] at h
    exact ⟨q, rfl, h⟩
def szB (n : Nat) : D → Bool
  | .tuple ds => decide (ds.length = n) && ds.all nnB
  | _ => false
theorem szB_of {n : Nat} {d : D} (h : szB n d = true) : ∃ qs : List Rat, d = .tuple (qs.map fr) ∧ qs.length = n ∧ ∀ q ∈ qs, 0 ≤ q := by
  match d, h with
  | .tuple ds, h =>
    have h : (decide (ds.length = n) && ds.all nnB) = true := h
    rw [Bool.and_eq_true, decide_eq_true_eq, List.all_eq_true] at h
    obtain ⟨h1, h2⟩ := h
    have : ∀ ds : List D, (∀ d ∈ ds, nnB d = true) → ∃ qs : List Rat, ds = qs.map fr ∧ ∀ q ∈ qs, 0 ≤ q := by
      intro ds
      induction ds with
      | nil => exact fun _ => ⟨[], rfl, by simp⟩
      | cons d ds ih =>
        intro hd
        obtain ⟨q, rfl, h0⟩ := nnB_of (hd d List.mem_cons_self)
        obtain ⟨qs, rfl, hq⟩ := ih fun x hx => hd x (List.mem_cons_of_mem _ hx)
        exact ⟨q :: qs, rfl, fun x hx => by
          rcases List.mem_cons.mp hx with
                                                                                                                        rfl | hx
          · exact h0
          · exact hq x hx⟩
    obtain ⟨qs, rfl, hq⟩ := this ds h2
    rw [List.length_map] at h1
    exact ⟨qs, rfl, h1, hq⟩
theorem szB_fr {qs : List Rat} {n : Nat} (h1 : qs.length = n) (h : ∀ q ∈ qs, 0 ≤ q) : szB n (.tuple (qs.map fr)) = true := by
  show (decide ((qs.map fr).length = n) && (qs.map fr).all nnB) = true
  rw [Bool.and_eq_true, decide_eq_true_eq, List.all_eq_true, List.length_map]
  refine ⟨h1, fun d hd => ?_⟩
  obtain ⟨q, hq, rfl⟩ :=
                                                                                                                List.mem_map.mp hd
  rw [nnB_fr, decide_eq_true_eq]
  exact h q hq
theorem bools_map (bs : List Bool) : boolsOf (bs.map PyData.bool) = some bs := by
  induction bs with
  | nil => rfl
  | cons b bs ih =>
    show (boolsOf (bs.map PyData.bool)).map (b :: ·) = _
    rw [ih]
    rfl
theorem all_of {α : Type} (p : α → Bool) (xs : List α) : dAll [.list (xs.map fun x => .bool (p x))] = some (.val (.bool (xs.all p))) := by
  show (boolsOf (xs.map fun x => .bool (p x))).map _ = _
  have e : (xs.map fun x => PyData.bool (p x)) = (xs.map p).map PyData.bool := by rw [List.map_map]; rfl
  rw [e, bools_map]
  simp [List.all_map]
theorem fr_int_of {d : D} (h : frB d = true) : ∃ a b, d = .tuple [.int a, .int b] := let ⟨q, e⟩ := frB_fr h; ⟨_, _, e⟩
theorem law_sizes_any {n : Nat} {d : D} (h : Sml d) (hl : ∀ ds, d = .tuple ds → ds.length ≤ 1000) : m__law_is_sizes [.int (n : Int), d] = some (.ret (.val (.bool (szB n d)))) := by
  simp only [m__law_is_sizes, runM, g__law_is_sizes, List.length_cons, List.length_nil, if_true]
  match d, h, hl with
  | .none, _, _ => simp [startE, isTup, szB]
  | .bool _, _, _ => simp [startE, isTup, szB]
  | .int _, _, _ => simp [startE, isTup, szB]
  | .str _, _, _ => simp [startE, isTup, szB]
  | .list _, _, _ => simp [startE, isTup, szB]
  | .dict _, _, _ => simp [startE, isTup, szB]
  | .tuple ds, h, hl =>
    have hs : ∀ x ∈ ds, Sml x := smls_iff.mp h
    have hl := hl ds rfl
    have lc : lcL (pNm 2) (bOr (bNot (vB (vCall m__law_is_fraction (vCons (vVar 2) (vNil))))) (vB (vOp (dCmp fun i j => decide (i < j)) (vIxv 2 (vC (.int 0))) (vC (.int 0))))) (vVar 2) [2] ds [.val (.int (n : Int)), .val (.tuple ds), .no] = .ok ((ds.filter fun d => !nnB d).map id) [.val (.int (n : Int)), .val (.tuple ds), .no] := by
      have e : ds = ds.map id := (List.map_id ds).symm
      conv => lhs; rw [show lcL (pNm 2) (bOr (bNot (vB (vCall m__law_is_fraction (vCons (vVar 2) (vNil))))) (vB (vOp (dCmp fun i j => decide (i < j)) (vIxv 2 (vC (.int 0))) (vC (.int 0))))) (vVar 2) [2] ds = lcL (pNm 2) (bOr (bNot (vB (vCall m__law_is_fraction (vCons (vVar 2) (vNil))))) (vB (vOp (dCmp fun i j => decide (i < j)) (vIxv 2 (vC (.int 0))) (vC (.int 0))))) (vVar 2) [2] (ds.map id) by rw [List.map_id]]
      exact lcL_keep id (fun d => !nnB d) id ds fun d hd => by
        have f := m_fraction_any (hs d hd)
        refine ⟨.val (.int (n : Int)), _, rfl, rfl, ?_, fun _ => by simp⟩
        cases hf : frB d with
        | false =>
          rw [hf] at f
          simp [f, nnB_no hf]
        | true =>
          rw [hf] at f
          obtain ⟨q, rfl⟩ := frB_fr hf
          have e := nnB_fr q
          have hn := Rat.num_nonneg (q := q)
          by_cases h0 : 0 ≤ q
          · have n1 : ¬ q.num < 0 := by have := hn.mpr h0; omega
            simp [f, e, h0, n1]
          · have n1 : q.num < 0 := Int.not_le.mp fun z => h0 (hn.mp z)
            simp [f, e, h0, n1]
    rw [List.map_id] at lc
    have eq := eq_nil_any (ds.filter fun d => !nnB d)
    have e3 : (ds.filter fun d => !nnB d).isEmpty = ds.all nnB := by
      rw [Bool.eq_iff_iff, List.isEmpty_iff, List.filter_eq_nil_iff, List.all_eq_true]
      simp
    rw [e3] at eq
    have l6 : ds.length ≤ 1000000 := by omega
    by_cases hn : ds.length = n
    · subst hn
      simp [startE, lc, l6, lim_is, noOwn, wipeE, backE, eq, szB]
    · have hn2 : ¬ (ds.length : Int) = (n : Int) := by omega
      simp [startE, hn, hn2, szB]
theorem sizes_any {n : Nat} {d : D} (h : Sml d) (hl : ∀ ds, d = .tuple ds → ds.length ≤ 1000) : m_is_sizes [.int (n : Int), d] = some (.ret (.val (.bool (szB n d)))) := by
  have ht := fun e => m_tuple_of_any e (n : Int)
  simp only [m_is_sizes, runM, g_is_sizes, List.length_cons, List.length_nil, if_true]
  match d, h, hl with
  | .none, _, _ => simp [startE, isTup, szB, ht]
  | .bool _, _, _ => simp [startE, isTup, szB, ht]
  | .int _, _, _ => simp [startE, isTup, szB, ht]
  | .str _, _, _ => simp [startE, isTup, szB, ht]
  | .list _, _, _ => simp [startE, isTup, szB, ht]
  | .dict _, _, _ => simp [startE, isTup, szB, ht]
  | .tuple ds, h, hl =>
    have hs : ∀ x ∈ ds, Sml x := smls_iff.mp h
    have hl := hl ds rfl
    have lc : lcL (pNm 2) bYes (e1_is_sizes 0) [2] (ds.map id) [.val (.int (n : Int)), .val (.tuple ds), .no] = .ok (ds.map fun d => .bool (nnB d)) [.val (.int (n : Int)), .val (.tuple ds), .no] :=
      lcL_each id (fun d => .bool (nnB d)) ds fun d hd => by
        have f := m_is_fraction_any (hs d hd)
        refine ⟨.val (.int (n : Int)), _, rfl, rfl, ?_⟩
        cases hf : frB d with
        | false =>
          rw [hf] at f
          simp [e1_is_sizes, f, nnB_no hf]
        | true =>
          rw [hf] at f
          obtain ⟨q, rfl⟩ := frB_fr hf
          have e := nnB_fr q
          have hn := Rat.num_nonneg (q := q)
          by_cases h0 : 0 ≤ q
          · simp [e1_is_sizes, f, e, h0, hn]
          · simp [e1_is_sizes, f, e, h0, hn]
    rw [List.map_id] at lc
    have al := all_of nnB ds
    have l6 : ds.length ≤ 1000000 := by omega
    by_cases hn : ds.length = n
    · subst hn
      simp [startE, ht, tlen, lc, l6, lim_is, noOwn, wipeE, backE, al, szB]
    · have hn2 : ¬ (ds.length : Int) = (n : Int) := by omega
      simp [startE, ht, tlen, hn, hn2, szB]
end Fr

namespace Fr
open PySem Mv Sh

/-! ### courses of any value -/
def toQ : D → Rat
  | .tuple [.int a, .int b] => Rat.divInt a b
  | _ => 0
def toQs : D → List Rat
  | .tuple ds => ds.map toQ
  | _ => []
theorem toQ_fr (q : Rat) : toQ (fr q) = q := by
  show Rat.divInt q.num q.den = q
  exact Rat.num_divInt_den q
theorem toQs_fr (qs : List Rat) : toQs (.tuple (qs.map fr)) = qs := by
  show (qs.map fr).map toQ = qs
  rw [List.map_map]
  have : toQ ∘ fr = id := funext toQ_fr
  rw [this, List.map_id]
def pairsB (N : Net) (ds : List D) : Bool := (ds.zip ds.tail).all fun x => follB N (toQs x.1) (toQs x.2)
def courseB (N : Net) : D → Bool
  | .list ds => !ds.isEmpty && (ds.all (szB N.many) && pairsB N ds)
  | _ => false
structure Crs (C M : Nat) (N : Net) (ds : List D) : Prop where
  len : ds.length ≤ 400
  sml : ∀ x ∈ ds, Sml x
  few : ∀ x ∈ ds, ∀ es, x = .tuple es → es.length ≤ 1000
  szs : ∀ x ∈ ds, szB N.many x = true → SzOk C M N.many (toQs x)
theorem cut_tail_any (ds : List D) : cutD ds (some 1) none = ds.tail := by
  cases ds with
  | nil => rfl
  | cons d ds => exact cut_tail1 d ds
def prD2 (x : D × D) : D := .tuple [x.1, x.2]
theorem zip_pr : ∀ (xs ys : List D), zipD xs ys = (xs.zip ys).map prD2
  | [], [] => rfl
  | [], _ :: _ => rfl
  | _ :: _, [] => rfl
  | x :: xs, y :: ys => by
    have := zip_pr xs ys
    show PyData.tuple [x, y] :: zipD xs ys = prD2 (x, y) :: (xs.zip ys).map prD2
    rw [this]
    rfl
section
variable {C M : Nat} {N : Net} {ds : List D}
theorem Crs.pair (R : Crs C M N ds) (K : NetOk N) (hm : N.many ≤ 400) (hall : ds.all (szB N.many) = true) {x : D × D} (hx : x ∈ ds.zip ds.tail) : ∃ (p q : List Rat), x = (.tuple (p.map fr), .tuple (q.map fr)) ∧ SzOk C M N.many p ∧ SzOk C M N.many q := by
  obtain ⟨h1, h2⟩ := List.of_mem_zip hx
  have h2 := List.mem_of_mem_tail h2
  obtain ⟨a, b⟩ := x
  have s1 := List.all_eq_true.mp hall a h1
  have s2 := List.all_eq_true.mp hall b h2
  have o1 := R.szs a h1 s1
  have o2 := R.szs b h2 s2
  obtain ⟨p, rfl, _⟩ := szB_of s1
  obtain ⟨q, rfl, _⟩ := szB_of s2
  rw [toQs_fr] at o1 o2
  exact ⟨p, q, rfl, o1, o2⟩
theorem course_any (K : NetOk N) (hm : N.many ≤ 400) (R : Crs C M N ds) : m_is_course [netD N, .list ds] = some (.ret (.val (.bool (courseB N (.list ds))))) := by
  have e0 := eq_nil_any ds
  have l6 : ds.length ≤ 1000000 := by have := R.len; omega
  have l7 : ds.length - 1 ≤ 1000000 := by omega
  have lc : lcL (pNm 4) bYes (e1_is_course 0) [4] (ds.map id) [.val (netD N), .val (.list ds), .no, .no, .no] = .ok (ds.map fun d => .bool (szB N.many d)) [.val (netD N), .val (.list ds), .no, .no, .no] :=
    lcL_each id (fun d => .bool (szB N.many d)) ds fun d hd => by
      have f := sizes_any (n := N.many) (R.sml d hd) (R.few d hd)
      exact ⟨.val (netD N), _, rfl, rfl, by simp [e1_is_course, f]⟩
  rw [List.map_id] at lc
  have al := all_of (szB N.many) ds
  simp only [m_is_course, runM, g_is_course, List.length_cons, List.length_nil, if_true]
  cases he : ds.isEmpty with
  | true =>
    rw [he] at e0
    simp [startE, e0, courseB, he]
  | false =>
    rw [he] at e0
    cases hall : ds.all (szB N.many) with
    | false =>
      rw [hall] at al
      simp [startE, e0, lc, al, l6, lim_is, noOwn, wipeE, backE, courseB, he, hall]
    | true =>
      rw [hall] at al
      have lc2 : lcL (pTup (pCons (pNm 2) (pCons (pNm 3) (pNil)))) bYes (e2_is_course 0) [2, 3] ((ds.zip ds.tail).map prD2) [.val (netD N), .val (.list ds), .no, .no, .no] = .ok ((ds.zip ds.tail).map fun x => .bool (follB N (toQs x.1) (toQs x.2))) [.val (netD N), .val (.list ds), .no, .no, .no] :=
        lcL_each prD2 _ (ds.zip ds.tail) fun x hx => by
          obtain ⟨p, q, rfl, o1, o2⟩ := R.pair K hm hall hx
          have f := m_follows_eq K o1 (by omega) (ys := q) (fun y hy => o2.bq (o2.all y hy).2)
          exact ⟨.val (netD N), _, rfl, rfl, by simp [e2_is_course, f, toQs_fr]⟩
      have al2 := all_of (fun x : D × D => follB N (toQs x.1) (toQs x.2)) (ds.zip ds.tail)
      have ct := cut_tail_any ds
      have zp := zip_pr ds ds.tail
      have mn : min ds.length (ds.length - 1) ≤ 1000000 := by omega
      simp [startE, e0, lc, al, l6, l7, lim_is, noOwn, wipeE, backE, ct, zp, lc2, al2, mn, courseB, he, hall, pairsB]
theorem law_course_any (K : NetOk N) (hm : N.many ≤ 400) (R : Crs C M N ds) : m__law_is_course [netD N, .list ds] = some (.ret (.val (.bool (courseB N (.list ds))))) := by
  have e0 := eq_nil_any ds
  have l6 : ds.length ≤ 1000000 := by have := R.len; omega
  have l7 : ds.length - 1 ≤ 1000000 := by omega
  have lc : lcL (pNm 2) (t1__law_is_course 0) (vC (.int 1)) [2] (ds.map id) [.val (netD N), .val (.list ds), .no, .no] = .ok ((ds.filter fun d => !szB N.many d).map fun _ => .int 1) [.val (netD N), .val (.list ds), .no, .no] :=
    lcL_keep id (fun d => !szB N.many d) (fun _ => .int 1) ds fun d hd => by
      have f := law_sizes_any (n := N.many) (R.sml d hd) (R.few d hd)
      exact ⟨.val (netD N), _, rfl, rfl, by simp [t1__law_is_course, f], fun _ => by simp⟩
  rw [List.map_id] at lc
  have eq := ne_nil_any ((ds.filter fun d => !szB N.many d).map fun _ => .int 1)
  have e3 : ((ds.filter fun d => !szB N.many d).map fun _ => PyData.int 1).isEmpty = ds.all (szB N.many) := by
    rw [Bool.eq_iff_iff, List.isEmpty_iff, List.map_eq_nil_iff, List.filter_eq_nil_iff, List.all_eq_true]
    simp
  rw [e3] at eq
  simp only [m__law_is_course, runM, g__law_is_course, List.length_cons, List.length_nil, if_true]
  cases he : ds.isEmpty with
  | true =>
    rw [he] at e0
    simp [startE, e0, courseB, he]
  | false =>
    rw [he] at e0
    cases hall : ds.all (szB N.many) with
    | false =>
      rw [hall] at eq
      simp [startE, e0, lc, eq, l6, lim_is, noOwn, wipeE, backE, courseB, he, hall]
    | true =>
      rw [hall] at eq
      have lc2 : lcL (pTup (pCons (pNm 2) (pCons (pNm 3) (pNil)))) (t2__law_is_course 0) (vC (.int 1)) [2, 3] ((ds.zip ds.tail).map prD2) [.val (netD N), .val (.list ds), .no, .no] = .ok (((ds.zip ds.tail).filter fun x => !follB N (toQs x.1) (toQs x.2)).map fun _ => .int 1) [.val (netD N), .val (.list ds), .no, .no] :=
        lcL_keep prD2 _ _ (ds.zip ds.tail) fun x hx => by
          obtain ⟨p, q, rfl, o1, o2⟩ := R.pair K hm hall hx
          have f := m_law_follow_eq K o1 (by omega) (ys := q) (fun y hy => o2.bq (o2.all y hy).2) (by have := o2.len; omega)
          exact ⟨.val (netD N), _, rfl, rfl, by simp [t2__law_is_course, f, toQs_fr], fun _ => by simp⟩
      have eq2 := eq_nil_any (((ds.zip ds.tail).filter fun x => !follB N (toQs x.1) (toQs x.2)).map fun _ => .int 1)
      have e4 : (((ds.zip ds.tail).filter fun x => !follB N (toQs x.1) (toQs x.2)).map fun _ => PyData.int 1).isEmpty = pairsB N ds := by
        unfold pairsB
        rw [Bool.eq_iff_iff, List.isEmpty_iff, List.map_eq_nil_iff, List.filter_eq_nil_iff, List.all_eq_true]
        simp
      rw [e4] at eq2
      have ct := cut_tail_any ds
      have zp := zip_pr ds ds.tail
      have mn : min ds.length (ds.length - 1) ≤ 1000000 := by omega
      simp [startE, e0, lc, eq, l6, l7, lim_is, noOwn, wipeE, backE, ct, zp, lc2, eq2, mn, courseB, he, hall]
theorem course_no {d : D} (h : isLst d = false) : m_is_course [netD N, d] = some (.ret (.val (.bool false))) ∧ m__law_is_course [netD N, d] = some (.ret (.val (.bool false))) := by
  constructor
  · simp only [m_is_course, runM, g_is_course, List.length_cons, List.length_nil, if_true]
    simp [startE, h]
  · simp only [m__law_is_course, runM, g__law_is_course, List.length_cons, List.length_nil, if_true]
    simp [startE, h]
end
end Fr

namespace Fr
open PySem Mv Sh

/-! ### courses that are drawn -/
def sizeD (qs : List Rat) : D := .tuple (qs.map fr)
def cB (j : Nat) : Nat := 6 * 144 ^ j
def mB (j : Nat) : Nat := 2 ^ (8 + 20 * j)
theorem cB_le (j : Nat) : cB j ≤ mB j := by
  induction j with
  | zero => decide
  | succ j ih =>
    have e1 : cB (j + 1) = 144 * cB j := by unfold cB; rw [Nat.pow_succ]; omega
    have e2 : mB (j + 1) = 2 ^ 20 * mB j := by
      unfold mB
      rw [← Nat.pow_add]
      congr 1
      omega
    rw [e1, e2]
    exact Nat.mul_le_mul (by decide) ih
theorem mB_step (j : Nat) : 102 * MM (cB j) (mB j) * 36 ≤ mB (j + 1) := by
  have e2 : mB (j + 1) = 2 ^ 20 * mB j := by
    unfold mB
    rw [← Nat.pow_add]
    congr 1
    omega
  have h := cB_le j
  rw [e2]
  unfold MM
  have : 2 ^ 20 = 1048576 := by decide
  rw [this]
  omega
theorem small_at {j : Nat} (h : j ≤ 6) : cB j < 2 ^ 150 ∧ mB j < 2 ^ 150 := by
  have h1 : mB j < 2 ^ 150 := by
    unfold mB
    exact Nat.pow_lt_pow_right
                                                                                                                  (by decide) (by omega)
  exact ⟨Nat.lt_of_le_of_lt (cB_le j) h1, h1⟩
theorem mean_next {N : Net} (K : NetOk N) {j : Nat} (hj : j < 6) {p : List Rat} (S : SzOk (cB j) (mB j) N.many p) {zs : List ((Rat × Rat) × Rat)} (h1 : zs.map (·.1) = rngs N p) (h2 : ∀ z ∈ zs, wi (z.1, z.2) = true ∧ Fx (12 * cB j * 12) (102 * MM (cB j) (mB j) * 36) z.2) :
    SzOk (cB (j + 1)) (mB (j + 1)) N.many (zs.map (·.2)) ∧ follB N p (zs.map (·.2)) = true := by
  have e1 : 12 * cB j * 12 = cB (j + 1) := by unfold cB; rw [Nat.pow_succ]; omega
  have hl := congrArg List.length h1
  rw [List.length_map, rngs_len] at hl
  refine ⟨⟨by rw [List.length_map]; exact hl, fun q hq => ?_, ?_, (small_at (by omega)).1, (small_at (by omega)).2⟩, ?_⟩
  · obtain ⟨z, hz, rfl⟩ := List.mem_map.mp hq
    obtain ⟨w, f⟩ := h2 z hz
    rw [e1] at f
    refine ⟨?_, f.mono (mB_step j)⟩
    unfold wi at w
    rw [Bool.and_eq_true, decide_eq_true_eq] at w
    have : z.1 ∈ rngs N p := by rw [← h1]; exact List.mem_map.mpr ⟨z, hz, rfl⟩
    exact Rat.le_trans (rngs_rg K S _ this).lo w.1
  · unfold cB
    have : 0 < 144 ^ (j + 1) := Nat.pow_pos (by decide)
    omega
  · unfold follB
    rw [← h1, List.all_eq_true]
    intro x hx
    rw [← List.unzip_fst, ← List.unzip_snd, List.zip_unzip] at hx
    exact (h2 x hx).1
/-- consecutive sizes follow -/
def runs (N : Net) : List (List Rat) → Prop
  | [] => True
  | [_] => True
  | p :: q :: r => follB N p q = true ∧ runs N (q :: r)
theorem runs_app {N : Net} : ∀ {cs : List (List Rat)} {p q : List Rat}, runs N (cs ++ [p]) → follB N p q = true → runs N (cs ++ [p] ++ [q])
  | [], p, q, _, h => ⟨h, trivial⟩
  | [a], p, q, h, h2 => ⟨h.1, h2, trivial⟩
  | a :: b :: cs, p, q, h, h2 => ⟨h.1, runs_app (cs := b :: cs) h.2 h2⟩
theorem runs_pairs {N : Net} : ∀ {cs : List (List Rat)}, runs N cs → pairsB N (cs.map sizeD) = true
  | [], _ => rfl
  | [_], _ => rfl
  | p :: q :: r, h => by
    have ih := runs_pairs (cs := q :: r) h.2
    unfold pairsB at *
    show (follB N (toQs (sizeD p)) (toQs (sizeD q)) && _) = true
    have e : ∀ x, toQs (sizeD x) = x := toQs_fr
    rw [e, e, h.1, Bool.true_and]
    exact ih
theorem at_last (xs : List D) (x : D) : L2.atI (xs ++ [x]) (-1) = some x := by
  unfold L2.atI L2.ixN
  have e : (xs ++ [x]).length = xs.length + 1 := by simp
  rw [if_neg (by decide), e, if_pos (by omega)]
  have e2 : (-1 + ((xs.length + 1 : Nat) : Int)).toNat = xs.length := by omega
  show (xs ++ [x])[(-1 + ((xs.length + 1 : Nat) : Int)).toNat]? = some x
  rw [e2]
  simp
theorem gone_ok {xs : List D} (hb : BagOk xs) {N : Net} (K : NetOk N) (hm : N.many ≤ 400) {p : List Rat} (S : SzOk 6 174 N.many p) {beats : Nat} (hbt : beats ≤ 6) :
    ∃ cs ys, m__law_gone xs [netD N, .tuple (p.map fr), .int (beats : Int)] = some (.ret (.own false (cs.map sizeD)), ys) ∧ BagOk ys ∧ cs.length = beats + 1 ∧ runs N cs ∧ ∀ q ∈ cs, ∃ j, j ≤ 6 ∧ SzOk (cB j) (mB j) N.many q := by
  have S0 : SzOk (cB 0) (mB 0) N.many p := ⟨S.len, fun q hq => ⟨(S.all q hq).1, (S.all q hq).2.mono (by decide)⟩, by decide, (small_at (by decide)).1, (small_at (by decide)).2⟩
  obtain ⟨e', h, ys, cs, q, s5, rfl, B, len, run, Sq, all⟩ := for_each (pat := pNm 5) (b := b1__law_gone 0) (fun k : Nat => PyData.int (k : Int)) (fun ks e => ∃ (ys : List D) (cs : List (List Rat)) (q : List Rat) (s5 : Sl), e = [.own true ys, .val (netD N), .val (.tuple (p.map fr)), .val (.int (beats : Int)), .own false ((cs ++ [q]).map sizeD), s5, .no] ∧ BagOk ys ∧ cs.length + ks.length = beats ∧ runs N (cs ++ [q]) ∧ SzOk (cB cs.length) (mB cs.length) N.many q ∧ ∀ r ∈ cs, ∃ j, j ≤ 6 ∧ SzOk (cB j) (mB j) N.many r) (fun k ks e ⟨ys, cs, q, s5, he, B, len, run, Sq, all⟩ => by
    subst he
    rw [List.length_cons] at len
    have nx := m_law_next_eq K Sq (by omega)
    obtain ⟨zs, e', c1, c2, c3, y1, rfl, B1⟩ := lcL_draw (pat := pNm 6) (el := e1__law_gone 0) (vs := [6]) sp fr (fun r x => wi (r, x) = true ∧ Fx (12 * cB cs.length * 12) (102 * MM (cB cs.length) (mB cs.length) * 36) x) (fun e => ∃ us, e = [.own true us, .val (netD N), .val (.tuple (p.map fr)), .val (.int (beats : Int)), .own false ((cs ++ [q]).map sizeD), .val (.int (k : Int)), .no] ∧ BagOk us) (rngs N q) (fun r hr e ⟨us, he, B⟩ => by
      subst he
      obtain ⟨x, u2, e1, B2, h1, h2⟩ := mean_ok B Sq.lim (rngs_rg K Sq r hr)
      exact ⟨_, _, x, [.own true u2, .val (netD N), .val (.tuple (p.map fr)), .val (.int (beats : Int)), .own false ((cs ++ [q]).map sizeD), .val (.int (k : Int)), .val (sp r)], rfl, by simp [e1__law_gone, e1], ⟨h1, h2⟩, u2, rfl, B2⟩) [.own true ys, .val (netD N), .val (.tuple (p.map fr)), .val (.int (beats : Int)), .own false ((cs ++ [q]).map sizeD), .val (.int (k : Int)), .no] ⟨ys, rfl, B⟩
    obtain ⟨S2, F2⟩ := mean_next K (by omega) Sq c2 c3
    have e0 : (zs.map fun z => fr z.2) = (zs.map (·.2)).map fr := by rw [List.map_map]; rfl
    rw [e0] at c1
    generalize zs.map (·.2) = later at *
    have rl := rngs_len N q
    have hm6 : N.many ≤ 1000000 := by omega
    have cl : cs.length + 1 < 1000000 := by omega
    have ix : L2.atI (cs.map sizeD ++ [sizeD q]) (-1) = some (sizeD q) := by
      exact at_last _ _
    rw [List.map_append, List.map_singleton] at c1
    have nx : m__law_next [netD N, sizeD q] = _ := nx
    refine ⟨_, [.own true y1, .val (netD N), .val (.tuple (p.map fr)), .val (.int (beats : Int)), .own false ((cs ++ [q] ++ [later]).map sizeD), .val (.int (k : Int)), .no], rfl, ?_, y1, cs ++ [q], later, _, rfl, B1, by rw [List.length_append, List.length_singleton]; omega, runs_app run F2, by rw [List.length_append, List.length_singleton]; exact S2, fun r hr => ?_⟩
    · have es : PyData.tuple (List.map fr later) = sizeD later := rfl
      simp [b1__law_gone, ix, nx, rl, hm6, lim_is, noOwn, wipeE, backE, c1, dTuple, cl, es]
    · rcases List.mem_append.mp hr with
                                                                                                                    hr | hr
      · exact all r hr
      · rw [(List.mem_singleton.mp hr)]
        exact ⟨cs.length, by omega, Sq⟩) (List.range beats) [.own true xs, .val (netD N), .val (.tuple (p.map fr)), .val (.int (beats : Int)), .own false [sizeD p], .no, .no] ⟨xs, [], p, .no, rfl, hb, by simp, trivial, S0, by simp⟩
  rw [← rng_map] at h
  rw [List.length_nil] at len
  have rng : ∀ e, rngR [.int (beats : Int)] e = .ok (rngD 0 beats) e := rng_nat (by omega)
  have h : forL (pNm 5) (b1__law_gone 0) (rngD 0 beats) [.own true xs, .val (netD N), .val (.tuple (p.map fr)), .val (.int (beats : Int)), .own false [.tuple (p.map fr)], .no, .no] = _ := h
  refine ⟨cs ++ [q], ys, ?_, B, by rw [List.length_append, List.length_singleton]; omega, run, fun r hr => ?_⟩
  · simp only [m__law_gone, runB, g__law_gone, List.length_cons, List.length_nil, if_true]
    simp [startE, rng, h, lim_is]
  · rcases List.mem_append.mp hr with
                                                                                                                  hr | hr
    · exact all r hr
    · rw [(List.mem_singleton.mp hr)]
      exact ⟨cs.length, by omega, Sq⟩
end Fr

namespace Fr
open PySem Mv Sh

/-! ### sums of fractions of unlike dens -/
def Bn (B : Nat) (q : Rat) : Prop := q.num.natAbs ≤ 2 ^ B ∧ q.den ≤ 2 ^ B
theorem Bn.mono {B B' : Nat} {q : Rat} (h : Bn B q) (le : B ≤ B') : Bn B' q := ⟨Nat.le_trans h.1 (Nat.pow_le_pow_right (by decide) le), Nat.le_trans h.2 (Nat.pow_le_pow_right (by decide) le)⟩
theorem Bn.bq {B : Nat} {q : Rat} (h : Bn B q) (hB : B < 4000) : Bq q := ⟨Nat.lt_of_le_of_lt h.1 (Nat.pow_lt_pow_right (by decide) hB), Nat.lt_of_le_of_lt h.2 (Nat.pow_lt_pow_right (by decide) hB)⟩
theorem Bn.own {B : Nat} {q : Rat} (h : Bn B q) : Fx q.den (2 ^ B) q := ⟨q.num, h.1, (Rat.num_divInt_den q).symm⟩
theorem Bn.of_fx {N M B : Nat} {q : Rat} (h : Fx N M q) (n0 : 0 < N) (hN : N ≤ 2 ^ B) (hM : M ≤ 2 ^ B) : Bn B q := ⟨Nat.le_trans (h.num n0).1 hM, Nat.le_trans (h.num n0).2 hN⟩
/-- a sum of k such -/
structure Sm (B k : Nat) (x : Rat) : Prop where
  ex : ∃ D A : Nat, 0 < D ∧ Fx D A x ∧ D ≤ 2 ^ (B * k) ∧ A ≤ k * 2 ^ (B * k)
theorem Sm.zero {B : Nat} : Sm B 0 0 := ⟨⟨1, 0, by decide, Fx.zero, Nat.one_le_two_pow, by omega⟩⟩
theorem Sm.add {B k : Nat} {x q : Rat} (h : Sm B k x) (hq : Bn B q) : Sm B (k + 1) (x + q) := by
  obtain ⟨D, A, d0, f, dl, al⟩ := h.ex
  have q0 := q.den_pos
  have f1 : Fx (D * q.den) (A * q.den) x := f.fine q.den q0
  have f2 : Fx (D * q.den) (2 ^ B * D) q := by
    have := hq.own.fine D d0
    rwa [Nat.mul_comm q.den D] at this
  have e : 2 ^ (B * (k + 1)) = 2 ^ (B * k) * 2 ^ B := by rw [← Nat.pow_add]; congr 1
  refine ⟨⟨D * q.den, A * q.den + 2 ^ B * D, Nat.mul_pos d0 q0, f1.add f2, ?_, ?_⟩⟩
  · rw [e]
    exact Nat.mul_le_mul dl hq.2
  · rw [e, Nat.succ_mul]
    refine Nat.add_le_add ?_ ?_
    · rw [← Nat.mul_assoc]
      exact Nat.mul_le_mul al hq.2
    · rw [Nat.mul_comm (2 ^ B)]
      exact Nat.mul_le_mul_right _ dl
theorem Sm.bn {B k : Nat} {x : Rat} (h : Sm B k x) : Bn (B * k + k) x := by
  obtain ⟨D, A, d0, f, dl, al⟩ := h.ex
  have hk : k ≤ 2 ^ k := Nat.le_of_lt Nat.lt_two_pow_self
  refine Bn.of_fx f d0 (Nat.le_trans dl (Nat.pow_le_pow_right (by decide) (by omega))) (Nat.le_trans al ?_)
  rw [Nat.pow_add, Nat.mul_comm]
  exact Nat.mul_le_mul_left _ hk
theorem sm_sum {B : Nat} : ∀ {qs : List Rat} {x : Rat} {k : Nat}, (∀ q ∈ qs, Bn B q) → Sm B k x → Sm B (k + qs.length) (x + sumQ qs)
  | [], x, k, _, h => by rw [sumQ, Rat.add_zero]; exact h
  | q :: qs, x, k, hq, h => by
    have := sm_sum (qs := qs) (fun r hr => hq r (List.mem_cons_of_mem _ hr)) (h.add (hq q List.mem_cons_self))
    rw [sumQ, ← Rat.add_assoc, List.length_cons, show k + (qs.length + 1) = k + 1 + qs.length by omega]
    exact this
theorem bn_sum {B : Nat} {qs : List Rat} (h : ∀ q ∈ qs, Bn B q) : Bn (B * qs.length + qs.length) (sumQ qs) := by
  have := (sm_sum h Sm.zero).bn
  rwa [Rat.zero_add, Nat.zero_add] at this
theorem bn_mono_len {B n m : Nat} (h : n ≤ m) : B * n + n ≤ B * m + m := Nat.add_le_add (Nat.mul_le_mul_left _ h) h
theorem added_bn_loop {B : Nat} (b : MS)
    (hb : b = sSet 1 (vCall m_reduced (vCons (vOp dAdd (vOp dMul (vIxv 1 (vC (.int 0))) (vVar 3)) (vOp dMul (vVar 2) (vIxv 1 (vC (.int 1))))) (vCons (vOp dMul (vIxv 1 (vC (.int 1))) (vVar 3)) (vNil))))) :
    ∀ (qs : List Rat) (x : Rat) (k : Nat) (s0 s2 s3 : Sl), (∀ q ∈ qs, Bn B q) → Sm B k x → B * (k + qs.length) + (k + qs.length) < 4000 → B < 4000 → ∃ t2 t3, forL (pTup (pCons (pNm 2) (pCons (pNm 3) (pNil)))) b (qs.map fr) [s0, .val (fr x), s2, s3] = .ok .nx [s0, .val (fr (x + sumQ qs)), t2, t3]
  | [], x, k, s0, s2, s3, _, _, _, _ => ⟨s2, s3, by rw [sumQ, Rat.add_zero]; rfl⟩
  | q :: qs, x, k, s0, s2, s3, hq, hx, hB, hB2 => by
    have h1 := hq q List.mem_cons_self
    rw [List.length_cons] at hB
    obtain ⟨t2, t3, h⟩ := added_bn_loop b hb qs (x + q) (k + 1) s0 (.val (.int q.num)) (.val (.int q.den)) (fun r hr => hq r (List.mem_cons_of_mem _ hr)) (hx.add h1) (by rw [show k + 1 + qs.length = k + (qs.length + 1) by omega]; exact hB) hB2
    have b1 : Bq x := hx.bn.bq (Nat.lt_of_le_of_lt (bn_mono_len (by omega)) hB)
    have b2 : Bq q := h1.bq hB2
    refine ⟨t2, t3, ?_⟩
    rw [List.map_cons, forL_nx (e1 := [s0, .val (fr x), .val (.int q.num), .val (.int q.den)]) (e2 := [s0, .val (fr (x + q)), .val (.int q.num), .val (.int q.den)]) (by simp [fr]) ?_, h, sumQ, Rat.add_assoc]
    rw [hb]
    simp [mul_nd b1 b2, mul_nd b2 b1, mul_dd b1 b2, m_reduced_eq (dd_ne x q) (dd_small b1 b2), add_val]
theorem m_added_bn {B : Nat} {qs : List Rat} {d0 : D} (h0 : d0 = .list (qs.map fr) ∨ d0 = .tuple (qs.map fr)) (hq : ∀ q ∈ qs, Bn B q) (hB : B * qs.length + qs.length < 4000) (hB2 : B < 4000) : m_added [d0] = some (.ret (.val (fr (sumQ qs)))) := by
  obtain ⟨t2, t3, h⟩ := added_bn_loop _ rfl qs 0 0 (.val d0) .no .no hq Sm.zero (by rw [Nat.zero_add]; exact hB) hB2
  rw [Rat.zero_add] at h
  have e0 : PyData.tuple [.int 0, .int 1] = fr 0 := rfl
  simp only [m_added, runM, g_added, List.length_cons, List.length_nil, if_true]
  rcases h0 with rfl | rfl <;> simp [startE, e0, h]
theorem m_plus_b {B : Nat} {qs : List Rat} {d0 : D} (h0 : d0 = .list (qs.map fr) ∨ d0 = .tuple (qs.map fr)) (hq : ∀ q ∈ qs, Bn B q) (hB : B * qs.length + qs.length + B < 8000) : m__law_plus [d0] = some (.ret (.val (fr (sumQ qs)))) := by
  have e : (2 ^ B) ^ qs.length = 2 ^ (B * qs.length) := by rw [Nat.pow_mul]
  refine m_plus_bn (N := 2 ^ B) (M := 2 ^ B) (Nat.two_pow_pos B) h0 hq ?_ ?_ ?_
  · rw [e, Nat.mul_assoc, ← Nat.pow_add]
    have hk : qs.length < 2 ^ qs.length := Nat.lt_two_pow_self
    have h1 : qs.length * 2 ^ (B + B * qs.length) < 2 ^ qs.length * 2 ^ (B + B * qs.length) := Nat.mul_lt_mul_of_pos_right hk (Nat.two_pow_pos _)
    rw [← Nat.pow_add] at h1
    exact up h1 (by omega)
  · rw [e]
    exact Nat.pow_lt_pow_right
                                                                                                                  (by decide) (by omega)
  · exact Nat.pow_lt_pow_right (by decide) (by omega)
theorem bq_two {q : Rat} {B : Nat} (h : Bn B q) : Bn (B + 1) (2 * q) := by
  have e : 2 * q = q + q := by grind
  have f := h.own.add h.own
  rw [← e] at f
  have p : 2 ^ (B + 1) = 2 ^ B + 2 ^ B := by rw [Nat.pow_succ]; omega
  refine Bn.of_fx f q.den_pos ?_ (by omega)
  have := h.2
  omega
theorem m_small_b {B : Nat} (hB : B < 3900) {a t : Rat} (ha : Bn B a) (ht : Bn B t) : m_is_small [fr a, fr t] = some (.ret (.val (.bool (decide (2 * a ≤ t))))) := by
  have h1 := m_times_eq bq2 (ha.bq (by omega))
  have h2 := m_compared_eq ((bq_two ha).bq (by omega)) (ht.bq (by omega))
  have h3 := cmpI_le (2 * a) t
  have e2 : PyData.tuple [.int 2, .int 1] = fr 2 := rfl
  simp only [m_is_small, runM, g_is_small, List.length_cons, List.length_nil, if_true]
  simp [startE, lim_is, e2, h1, h2, h3]
/-! ### heaps of any value -/
def is012 : D → Bool
  | .int i => decide (i = 0 ∨ i = 1 ∨ i = 2)
  | _ => false
theorem ints_of : ∀ {ds : List D}, ds.all is012 = true → ∃ hs : List Int, ds = hs.map PyData.int ∧ ∀ x ∈ hs, x = 0 ∨ x = 1 ∨ x = 2
  | [], _ => ⟨[], rfl, by simp⟩
  | d :: ds, h => by
    rw [List.all_cons,
                                                                                                                  Bool.and_eq_true] at h
    obtain ⟨hs, rfl, h2⟩ := ints_of h.2
    have h1 := h.1
    cases d with
    | int i =>
      have h1 : i = 0 ∨ i = 1 ∨ i = 2 := of_decide_eq_true h1
      exact ⟨i :: hs, rfl, fun x hx => by
        rcases List.mem_cons.mp hx with
                                                                                                                      rfl | hx
        · exact h1
        · exact h2 x hx⟩
    | _ => cases h1
def toI : D → Int
  | .int i => i
  | _ => 0
theorem toI_map (hs : List Int) : (hs.map PyData.int).map toI = hs := by
  rw [List.map_map]
  have : toI ∘ PyData.int = id := rfl
  rw [this, List.map_id]
def heapsB (qs : List Rat) : D → Bool
  | .tuple ds => decide (ds.length = qs.length) && (ds.all is012 && ([0, 1, 2] : List Int).all fun w => decide (2 * selQ w qs (ds.map toI) ≤ sumQ qs))
  | _ => false
theorem sel_parts : ∀ {qs : List Rat} {hs : List Int}, hs.length = qs.length → (∀ x ∈ hs, x = 0 ∨ x = 1 ∨ x = 2) → selQ 0 qs hs + selQ 1 qs hs + selQ 2 qs hs = sumQ qs
  | [], [], _, _ => by simp only [selQ_nil, sumQ, Rat.add_zero]
  | q :: qs, h :: hs, hl, h2 => by
    have ih := sel_parts (qs := qs) (hs := hs) (by simpa using hl) fun x hx => h2 x (List.mem_cons_of_mem _ hx)
    have h0 := h2 h List.mem_cons_self
    simp only [selQ_cons, sumQ]
    rcases h0 with rfl | rfl | rfl <;> simp <;> grind
  | [], _ :: _, hl, _ => by cases hl
  | _ :: _, [], hl, _ => by cases hl
theorem sel_bn {B : Nat} {qs : List Rat} (hq : ∀ q ∈ qs, Bn B q) (w : Int) (hs : List Int) : (∀ q ∈ ((qs.zip hs).filter fun x => decide (x.2 = w)).map (·.1), Bn B q) ∧ (((qs.zip hs).filter fun x => decide (x.2 = w)).map (·.1)).length ≤ qs.length := by
  refine ⟨fun q h => ?_, ?_⟩
  · obtain ⟨x, hx, rfl⟩ := List.mem_map.mp h
    exact hq _ (List.of_mem_zip (show (x.1, x.2) ∈ qs.zip hs from (List.mem_filter.mp hx).1)).1
  · rw [List.length_map]
    have h2 := List.length_filter_le (fun x => decide (x.2 = w)) (qs.zip hs)
    have h3 := List.length_zip (l₁ := qs) (l₂ := hs)
    omega
theorem selQ_bn {B : Nat} {qs : List Rat} (hq : ∀ q ∈ qs, Bn B q) (w : Int) (hs : List Int) : Bn (B * qs.length + qs.length) (selQ w qs hs) := by
  obtain ⟨h1, h2⟩ := sel_bn hq w hs
  exact (bn_sum h1).mono (bn_mono_len h2)
end Fr

namespace G11
open L2 PySem.Spec PySem PyProof.Rows Mv Sh
def topS (i : Nat) : Stmt := PySem.Challenge.pw_anglesuntold_k11_sums_of_fractions.main.body.getD i (.Pass ⟨0, 0, 0, 0⟩)
section
variable {P : Program} {w : World} {K : PySem.W.Frag} {mg : Str → Option Value} {base : Heap} {f : Addr} {fd : FuncData}

/-! ### common -/
abbrev S_common : Stmt := topS 1
theorem sc_common : FnScope ["one", "other"] ["one", "other"] (defScope S_common) := ⟨rfl, rfl, rfl, by decide +kernel, rfl, by decide +kernel, by decide +kernel⟩
theorem w_common (bt : Blt mg) (nd : base.NoDigits) (F : Fun K "common" "common" S_common f fd) (b : Binds K fd ["one", "other"] []) (hm : mg "common" = some (.ref f)) : FnV P w K mg base "common" 1 m_common :=
  fnv_run (k := 0) F sc_common hm b fun n cdv A outer s H E hr =>
    vss_cons (vs_while n (passes_of rfl) (vb_cmp ov_gt (ve_var 1) (ve_int) (by rfl)) (vss_one (vs_par2 (i := 0) (j := 1) rfl sc_common.nd (vls_cons (ve_var 1) (vls_cons (ve_bin ov_mod (ve_var 0) (ve_var 1)) (vls_nil))) (by rfl) rfl rfl))) (vss_one (vs_retv 0))

/-! ### reduced -/
abbrev S_reduced : Stmt := topS 4
theorem sc_reduced : FnScope ["num", "den", "divisor"] ["num", "den"] (defScope S_reduced) := ⟨rfl, rfl, rfl, by decide +kernel, rfl, by decide +kernel, by decide +kernel⟩
theorem w_reduced (bt : Blt mg) (nd : base.NoDigits) (F : Fun K "reduced" "reduced" S_reduced f fd) (b : Binds K fd ["num", "den"] []) (hm : mg "reduced" = some (.ref f)) (c_common : FnV P w K mg base "common" 1 m_common) : FnV P w K mg base "reduced" 2 m_reduced :=
  fnv_run (k := 1) F sc_reduced hm b fun n cdv A outer s H E hr =>
    vss_cons (vs_set (i := 2) sc_reduced.nd (ve_call (c_common.mono (by decide)) hr body_takes (vds_cons (ve_callB cv_abs (by rfl) bt.abs bo_abs (vds_cons (ve_var 0) (vds_nil))) (vds_cons (ve_callB cv_abs (by rfl) bt.abs bo_abs (vds_cons (ve_var 1) (vds_nil))) (vds_nil))))) (vss_cons (vs_if (vb_cmp ov_lt (ve_var 1) (ve_int) (by rfl)) (vss_one (vs_set (i := 2) sc_reduced.nd (ve_bin ov_sub (ve_int) (ve_var 2)))) (vss_nil)) (vss_one (vs_ret (ve_tup (vds_cons (ve_bin ov_fdiv (ve_var 0) (ve_var 2)) (vds_cons (ve_bin ov_fdiv (ve_var 1) (ve_var 2)) (vds_nil)))))))

/-! ### added -/
abbrev S_added : Stmt := topS 5
theorem sc_added : FnScope ["parts", "found", "num", "den"] ["parts"] (defScope S_added) := ⟨rfl, rfl, rfl, by decide +kernel, rfl, by decide +kernel, by decide +kernel⟩
theorem w_added (bt : Blt mg) (nd : base.NoDigits) (F : Fun K "added" "added" S_added f fd) (b : Binds K fd ["parts"] []) (hm : mg "added" = some (.ref f)) (c_reduced : FnV P w K mg base "reduced" 2 m_reduced) (k_ZERO : GC K mg "ZERO" (.tuple [(.int 0), (.int 1)])) : FnV P w K mg base "added" 3 m_added :=
  fnv_run (k := 2) F sc_added hm b fun n cdv A outer s H E hr =>
    vss_cons (vs_set (i := 1) sc_added.nd (ve_gc k_ZERO)) (vss_cons (vs_for (vs := [2, 3]) rfl (passes_of rfl) (vi_seq (ve_var 0)) (vg_tup rfl (vgs_cons (vg_nm (i := 2) sc_added.nd) (vgs_cons (vg_nm (i := 3) sc_added.nd) (vgs_nil))) (pCons_len (pCons_len pNil_len))) (vss_one (vs_set (i := 1) sc_added.nd (ve_call (c_reduced.mono (by decide)) hr body_takes (vds_cons (ve_bin ov_add (ve_bin ov_mul (ve_ixv (i := 1) (ve_int)) (ve_var 3)) (ve_bin ov_mul (ve_var 2) (ve_ixv (i := 1) (ve_int)))) (vds_cons (ve_bin ov_mul (ve_ixv (i := 1) (ve_int)) (ve_var 3)) (vds_nil))))))) (vss_one (vs_retv 1)))

/-! ### less -/
abbrev S_less : Stmt := topS 6
theorem sc_less : FnScope ["one", "other"] ["one", "other"] (defScope S_less) := ⟨rfl, rfl, rfl, by decide +kernel, rfl, by decide +kernel, by decide +kernel⟩
theorem w_less (bt : Blt mg) (nd : base.NoDigits) (F : Fun K "less" "less" S_less f fd) (b : Binds K fd ["one", "other"] []) (hm : mg "less" = some (.ref f)) (c_reduced : FnV P w K mg base "reduced" 2 m_reduced) : FnV P w K mg base "less" 3 m_less :=
  fnv_run (k := 2) F sc_less hm b fun n cdv A outer s H E hr =>
    vss_one (vs_ret (ve_call (c_reduced.mono (by decide)) hr body_takes (vds_cons (ve_bin ov_sub (ve_bin ov_mul (ve_ixv (i := 0) (ve_int)) (ve_ixv (i := 1) (ve_int))) (ve_bin ov_mul (ve_ixv (i := 1) (ve_int)) (ve_ixv (i := 0) (ve_int)))) (vds_cons (ve_bin ov_mul (ve_ixv (i := 0) (ve_int)) (ve_ixv (i := 1) (ve_int))) (vds_nil)))))

/-! ### times -/
abbrev S_times : Stmt := topS 7
theorem sc_times : FnScope ["one", "other"] ["one", "other"] (defScope S_times) := ⟨rfl, rfl, rfl, by decide +kernel, rfl, by decide +kernel, by decide +kernel⟩
theorem w_times (bt : Blt mg) (nd : base.NoDigits) (F : Fun K "times" "times" S_times f fd) (b : Binds K fd ["one", "other"] []) (hm : mg "times" = some (.ref f)) (c_reduced : FnV P w K mg base "reduced" 2 m_reduced) : FnV P w K mg base "times" 3 m_times :=
  fnv_run (k := 2) F sc_times hm b fun n cdv A outer s H E hr =>
    vss_one (vs_ret (ve_call (c_reduced.mono (by decide)) hr body_takes (vds_cons (ve_bin ov_mul (ve_ixv (i := 0) (ve_int)) (ve_ixv (i := 1) (ve_int))) (vds_cons (ve_bin ov_mul (ve_ixv (i := 0) (ve_int)) (ve_ixv (i := 1) (ve_int))) (vds_nil)))))

/-! ### over -/
abbrev S_over : Stmt := topS 8
theorem sc_over : FnScope ["one", "other"] ["one", "other"] (defScope S_over) := ⟨rfl, rfl, rfl, by decide +kernel, rfl, by decide +kernel, by decide +kernel⟩
def g_over (n : Nat) : MS := sRet (vCall m_reduced (vCons (vOp dMul2 (vIxv 0 (vC (.int 0))) (vIxv 1 (vC (.int 1)))) (vCons (vOp dMul2 (vIxv 0 (vC (.int 1))) (vIxv 1 (vC (.int 0)))) (vNil))))
def m_over : List D → Option Out := runM 2 2 g_over (fun _ => 0)
theorem w_over (bt : Blt mg) (nd : base.NoDigits) (F : Fun K "over" "over" S_over f fd) (b : Binds K fd ["one", "other"] []) (hm : mg "over" = some (.ref f)) (c_reduced : FnV P w K mg base "reduced" 2 m_reduced) : FnV P w K mg base "over" 3 m_over :=
  fnv_run (k := 2) F sc_over hm b fun n cdv A outer s H E hr =>
    vss_one (vs_ret (ve_call (c_reduced.mono (by decide)) hr body_takes (vds_cons (ve_bin ov_mul2 (ve_ixv (i := 0) (ve_int)) (ve_ixv (i := 1) (ve_int))) (vds_cons (ve_bin ov_mul2 (ve_ixv (i := 0) (ve_int)) (ve_ixv (i := 1) (ve_int))) (vds_nil)))))

/-! ### compared -/
abbrev S_compared : Stmt := topS 9
theorem sc_compared : FnScope ["one", "other", "left", "right"] ["one", "other"] (defScope S_compared) := ⟨rfl, rfl, rfl, by decide +kernel, rfl, by decide +kernel, by decide +kernel⟩
theorem w_compared (bt : Blt mg) (nd : base.NoDigits) (F : Fun K "compared" "compared" S_compared f fd) (b : Binds K fd ["one", "other"] []) (hm : mg "compared" = some (.ref f)) : FnV P w K mg base "compared" 1 m_compared :=
  fnv_run (k := 0) F sc_compared hm b fun n cdv A outer s H E hr =>
    vss_cons (vs_par2 (i := 2) (j := 3) rfl sc_compared.nd (vls_cons (ve_bin ov_mul (ve_ixv (i := 0) (ve_int)) (ve_ixv (i := 1) (ve_int))) (vls_cons (ve_bin ov_mul (ve_ixv (i := 1) (ve_int)) (ve_ixv (i := 0) (ve_int))) (vls_nil))) (by rfl) rfl rfl) (vss_one (vs_ret (ve_bin ov_sub (ve_callTy cv_int (by rfl) bt.int bo_int (vds_cons (ve_cmp ov_gt (ve_var 2) (ve_var 3) (by rfl)) (vds_nil))) (ve_callTy cv_int (by rfl) bt.int bo_int (vds_cons (ve_cmp ov_lt (ve_var 2) (ve_var 3) (by rfl)) (vds_nil))))))

/-! ### least_of -/
abbrev S_least_of : Stmt := topS 10
theorem sc_least_of : FnScope ["parts", "found", "one"] ["parts"] (defScope S_least_of) := ⟨rfl, rfl, rfl, by decide +kernel, rfl, by decide +kernel, by decide +kernel⟩
theorem w_least_of (bt : Blt mg) (nd : base.NoDigits) (F : Fun K "least_of" "least_of" S_least_of f fd) (b : Binds K fd ["parts"] []) (hm : mg "least_of" = some (.ref f)) (c_compared : FnV P w K mg base "compared" 1 m_compared) : FnV P w K mg base "least_of" 2 m_least_of :=
  fnv_run (k := 1) F sc_least_of hm b fun n cdv A outer s H E hr =>
    vss_cons (vs_set (i := 1) sc_least_of.nd (ve_ixv (i := 0) (ve_int))) (vss_cons (vs_for (vs := [2]) rfl (passes_of rfl) (vi_seq (ve_slice (ve_var 0) (vo_some (ve_int)) (vo_none))) (vg_nm (i := 2) sc_least_of.nd) (vss_one (vs_set (i := 1) sc_least_of.nd (ve_if (vb_cmp ov_lt (ve_call (c_compared.mono (by decide)) hr body_takes (vds_cons (ve_var 2) (vds_cons (ve_var 1) (vds_nil)))) (ve_int) (by rfl)) (ve_var 2) (ve_var 1))))) (vss_one (vs_retv 1)))

/-! ### greatest_of -/
abbrev S_greatest_of : Stmt := topS 11
theorem sc_greatest_of : FnScope ["parts", "found", "one"] ["parts"] (defScope S_greatest_of) := ⟨rfl, rfl, rfl, by decide +kernel, rfl, by decide +kernel, by decide +kernel⟩
theorem w_greatest_of (bt : Blt mg) (nd : base.NoDigits) (F : Fun K "greatest_of" "greatest_of" S_greatest_of f fd) (b : Binds K fd ["parts"] []) (hm : mg "greatest_of" = some (.ref f)) (c_compared : FnV P w K mg base "compared" 1 m_compared) : FnV P w K mg base "greatest_of" 2 m_greatest_of :=
  fnv_run (k := 1) F sc_greatest_of hm b fun n cdv A outer s H E hr =>
    vss_cons (vs_set (i := 1) sc_greatest_of.nd (ve_ixv (i := 0) (ve_int))) (vss_cons (vs_for (vs := [2]) rfl (passes_of rfl) (vi_seq (ve_slice (ve_var 0) (vo_some (ve_int)) (vo_none))) (vg_nm (i := 2) sc_greatest_of.nd) (vss_one (vs_set (i := 1) sc_greatest_of.nd (ve_if (vb_cmp ov_gt (ve_call (c_compared.mono (by decide)) hr body_takes (vds_cons (ve_var 2) (vds_cons (ve_var 1) (vds_nil)))) (ve_int) (by rfl)) (ve_var 2) (ve_var 1))))) (vss_one (vs_retv 1)))

def b1_common_den (n : Nat) : MS := sSet 1 (vOp dFdiv (vOp dMul2 (vVar 1) (vVar 3)) (vCall m_common (vCons (vVar 1) (vCons (vVar 3) (vNil)))))
/-! ### common_den -/
abbrev S_common_den : Stmt := topS 12
theorem sc_common_den : FnScope ["parts", "found", "_num", "den"] ["parts"] (defScope S_common_den) := ⟨rfl, rfl, rfl, by decide +kernel, rfl, by decide +kernel, by decide +kernel⟩
def g_common_den (n : Nat) : MS := sSeq (sSet 1 (vC (.int 1))) (sSeq (sFor (vItems (vVar 0)) (pTup (pCons (pNm 2) (pCons (pNm 3) (pNil)))) (b1_common_den n)) (sRetV 1))
def m_common_den : List D → Option Out := runM 1 4 g_common_den (fun _ => 0)
theorem w_common_den (bt : Blt mg) (nd : base.NoDigits) (F : Fun K "common_den" "common_den" S_common_den f fd) (b : Binds K fd ["parts"] []) (hm : mg "common_den" = some (.ref f)) (c_common : FnV P w K mg base "common" 1 m_common) : FnV P w K mg base "common_den" 2 m_common_den :=
  fnv_run (k := 1) F sc_common_den hm b fun n cdv A outer s H E hr =>
    vss_cons (vs_set (i := 1) sc_common_den.nd (ve_int)) (vss_cons (vs_for (vs := [2, 3]) rfl (passes_of rfl) (vi_seq (ve_var 0)) (vg_tup rfl (vgs_cons (vg_nm (i := 2) sc_common_den.nd) (vgs_cons (vg_nm (i := 3) sc_common_den.nd) (vgs_nil))) (pCons_len (pCons_len pNil_len))) (vss_one (vs_set (i := 1) sc_common_den.nd (ve_bin ov_fdiv (ve_bin ov_mul2 (ve_var 1) (ve_var 3)) (ve_call (c_common.mono (by decide)) hr body_takes (vds_cons (ve_var 1) (vds_cons (ve_var 3) (vds_nil)))))))) (vss_one (vs_retv 1)))

/-! ### _law_bag -/
abbrev S__law_bag : Stmt := topS 14
theorem sc__law_bag : FnScope ["script", "cell"] ["script"] (defScope S__law_bag) := ⟨rfl, rfl, rfl, by decide +kernel, rfl, by decide +kernel, by decide +kernel⟩
theorem w__law_bag (bt : Blt mg) (nd : base.NoDigits) (F : Fun K "_law_bag" "_law_bag" S__law_bag f fd) (b : Binds K fd ["script"] []) (hm : mg "_law_bag" = some (.ref f)) : FnV P w K mg base "_law_bag" 1 m__law_bag :=
  fnv_run (k := 0) F sc__law_bag hm b fun n cdv A outer s H E hr =>
    vss_one (vs_ret (ve_lst (vds_cons (ve_int) (vds_cons (ve_int) (vds_cons (ve_int) (vds_cons (ve_lc [("cell", 1)] rfl sc__law_bag.nd (blkOk_by (by rfl)) (vi_seq (ve_slice (ve_var 0) (vo_none) (vo_some (ve_int)))) (fun s H C cl fp => vg_nm (i := 1) sc__law_bag.nd) (fun s H C cl fp => vts_nil) (fun s H C cl fp => ve_callB cv_abs (by rfl) bt.abs bo_abs (vds_cons (ve_var 1) (vds_nil)))) (vds_nil)))))))

/-! ### _law_take -/
abbrev S__law_take : Stmt := topS 15
theorem sc__law_take : FnScope ["bag", "many", "cell", "stirred", "value", "begin", "second"] ["bag", "many"] (defScope S__law_take) := ⟨rfl, rfl, rfl, by decide +kernel, rfl, by decide +kernel, by decide +kernel⟩
theorem w__law_take (bt : Blt mg) (nd : base.NoDigits) (F : Fun K "_law_take" "_law_take" S__law_take f fd) (b : Binds K fd ["bag", "many"] []) (hm : mg "_law_take" = some (.ref f)) : FnB P w K mg base "_law_take" 1 m__law_take :=
  fnb_run (k := 0) F sc__law_take hm b fun n cdv A outer s H E hr =>
    vss_cons (vs_if (vb_cmp (ov_eq (hr.mono (Nat.zero_le _))) (ve_ixv (i := 0) (ve_int)) (ve_int) (by rfl)) (vss_cons (vs_set (i := 2) sc__law_take.nd (ve_ix iv_ix (ve_bin ov_add (ve_slice (ve_ixv (i := 0) (ve_int)) (vo_some (ve_ixv (i := 0) (ve_int))) (vo_none)) (ve_lst (vds_cons (ve_int) (vds_nil)))) (ve_int))) (vss_cons (vs_augS (i := 0) ip_add (ve_int) (ve_int)) (vss_cons (vs_if (vb_cmp ov_ge (ve_var 2) (ve_bin ov_pow (ve_int) (ve_int)) (by rfl)) (vss_one (vs_store (i := 0) (ve_var 2) (ve_int))) (vss_nil)) (vss_cons (vs_set (i := 3) sc__law_take.nd (ve_bin ov_add (ve_bin ov_add (ve_bin ov_mul (ve_ixv (i := 0) (ve_int)) (ve_int)) (ve_bin ov_mod (ve_callTy cv_int (by rfl) bt.int bo_int (vds_cons (ve_var 2) (vds_nil))) (ve_int))) (ve_bin ov_mul (ve_int) (ve_ixv (i := 0) (ve_int))))) (vss_one (vs_store (i := 0) (ve_bin ov_mod (ve_callTy cv_int (by rfl) bt.int bo_int (vds_cons (ve_var 3) (vds_nil))) (ve_int)) (ve_int))))))) (vss_nil)) (vss_cons (vs_if (vb_cmp ov_gt (ve_ixv (i := 0) (ve_int)) (ve_int) (by rfl)) (vss_cons (vs_set (i := 4) sc__law_take.nd (ve_bin ov_mod (ve_callTy cv_int (by rfl) bt.int bo_int (vds_cons (ve_ixv (i := 0) (ve_int)) (vds_nil))) (ve_var 1))) (vss_cons (vs_store (i := 0) (ve_bin ov_fdiv (ve_callTy cv_int (by rfl) bt.int bo_int (vds_cons (ve_ixv (i := 0) (ve_int)) (vds_nil))) (ve_var 1)) (ve_int)) (vss_one (vs_retv 4)))) (vss_nil)) (vss_cons (vs_set (i := 5) sc__law_take.nd (ve_bin ov_mod (ve_callTy cv_int (by rfl) bt.int bo_int (vds_cons (ve_bin ov_mul (ve_bin ov_add (ve_ixv (i := 0) (ve_int)) (ve_int)) (ve_int)) (vds_nil))) (ve_int))) (vss_cons (vs_set (i := 6) sc__law_take.nd (ve_bin ov_mod (ve_callTy cv_int (by rfl) bt.int bo_int (vds_cons (ve_bin ov_mul (ve_bin ov_mod (ve_callTy cv_int (by rfl) bt.int bo_int (vds_cons (ve_bin ov_mul (ve_var 5) (ve_var 5)) (vds_nil))) (ve_int)) (ve_int)) (vds_nil))) (ve_int))) (vss_one (vs_ret (ve_bin ov_mod (ve_callTy cv_int (by rfl) bt.int bo_int (vds_cons (ve_bin ov_fdiv (ve_var 6) (ve_int)) (vds_nil))) (ve_var 1)))))))

/-! ### _law_one -/
abbrev S__law_one : Stmt := topS 16
theorem sc__law_one : FnScope ["bag", "things"] ["bag", "things"] (defScope S__law_one) := ⟨rfl, rfl, rfl, by decide +kernel, rfl, by decide +kernel, by decide +kernel⟩
theorem w__law_one (bt : Blt mg) (nd : base.NoDigits) (F : Fun K "_law_one" "_law_one" S__law_one f fd) (b : Binds K fd ["bag", "things"] []) (hm : mg "_law_one" = some (.ref f)) (c__law_take : FnB P w K mg base "_law_take" 1 m__law_take) : FnB P w K mg base "_law_one" 2 m__law_one :=
  fnb_run (k := 1) F sc__law_one hm b fun n cdv A outer s H E hr =>
    vss_one (vs_ret (ve_ixv (i := 1) (ve_callBag (i := 0) (c__law_take.mono (by decide)) hr body_takes (vds_cons (ve_lenv (i := 1) (by rfl) bt.len) (vds_nil)))))

/-! ### _law_alike -/
abbrev S__law_alike : Stmt := topS 17
theorem sc__law_alike : FnScope ["found", "due"] ["found", "due"] (defScope S__law_alike) := ⟨rfl, rfl, rfl, by decide +kernel, rfl, by decide +kernel, by decide +kernel⟩
def g__law_alike (n : Nat) : MS := sRet (vAnd (vOp dEq (vVar 0) (vVar 1)) (vOp dEq (vCb dReprB (vCons (vVar 0) (vNil))) (vCb dReprB (vCons (vVar 1) (vNil)))))
def m__law_alike : List D → Option Out := runM 2 2 g__law_alike (fun _ => 0)
theorem w__law_alike (bt : Blt mg) (nd : base.NoDigits) (F : Fun K "_law_alike" "_law_alike" S__law_alike f fd) (b : Binds K fd ["found", "due"] []) (hm : mg "_law_alike" = some (.ref f)) : FnV P w K mg base "_law_alike" 1 m__law_alike :=
  fnv_run (k := 0) F sc__law_alike hm b fun n cdv A outer s H E hr =>
    vss_one (vs_ret (ve_and (ve_cmp (ov_eq (hr.mono (Nat.zero_le _))) (ve_var 0) (ve_var 1) (by rfl)) (ve_one (ve_cmp (ov_eq (hr.mono (Nat.zero_le _))) (ve_callB (cv_reprB nd (hr.mono (Nat.zero_le _))) (by rfl) bt.repr bo_repr (vds_cons (ve_var 0) (vds_nil))) (ve_callB (cv_reprB nd (hr.mono (Nat.zero_le _))) (by rfl) bt.repr bo_repr (vds_cons (ve_var 1) (vds_nil))) (by rfl)))))

/-! ### _law_shared -/
abbrev S__law_shared : Stmt := topS 18
theorem sc__law_shared : FnScope ["one", "other"] ["one", "other"] (defScope S__law_shared) := ⟨rfl, rfl, rfl, by decide +kernel, rfl, by decide +kernel, by decide +kernel⟩
theorem w__law_shared (bt : Blt mg) (nd : base.NoDigits) (F : Fun K "_law_shared" "_law_shared" S__law_shared f fd) (b : Binds K fd ["one", "other"] []) (hm : mg "_law_shared" = some (.ref f)) : FnV P w K mg base "_law_shared" 1 m__law_shared :=
  fnv_run (k := 0) F sc__law_shared hm b fun n cdv A outer s H E hr =>
    vss_cons (vs_par2 (i := 0) (j := 1) rfl sc__law_shared.nd (vls_cons (ve_callB cv_abs (by rfl) bt.abs bo_abs (vds_cons (ve_var 0) (vds_nil))) (vls_cons (ve_callB cv_abs (by rfl) bt.abs bo_abs (vds_cons (ve_var 1) (vds_nil))) (vls_nil))) (by rfl) rfl rfl) (vss_cons (vs_while n (passes_of rfl) (vb_cmp (ov_ne (hr.mono (Nat.zero_le _))) (ve_var 1) (ve_int) (by rfl)) (vss_one (vs_par2 (i := 0) (j := 1) rfl sc__law_shared.nd (vls_cons (ve_var 1) (vls_cons (ve_bin ov_mod (ve_callTy cv_int (by rfl) bt.int bo_int (vds_cons (ve_var 0) (vds_nil))) (ve_var 1)) (vls_nil))) (by rfl) rfl rfl))) (vss_one (vs_retv 0)))

/-! ### _law_ratio -/
abbrev S__law_ratio : Stmt := topS 19
theorem sc__law_ratio : FnScope ["num", "den", "by"] ["num", "den"] (defScope S__law_ratio) := ⟨rfl, rfl, rfl, by decide +kernel, rfl, by decide +kernel, by decide +kernel⟩
theorem w__law_ratio (bt : Blt mg) (nd : base.NoDigits) (F : Fun K "_law_ratio" "_law_ratio" S__law_ratio f fd) (b : Binds K fd ["num", "den"] []) (hm : mg "_law_ratio" = some (.ref f)) (c__law_shared : FnV P w K mg base "_law_shared" 1 m__law_shared) : FnV P w K mg base "_law_ratio" 2 m__law_ratio :=
  fnv_run (k := 1) F sc__law_ratio hm b fun n cdv A outer s H E hr =>
    vss_cons (vs_set (i := 2) sc__law_ratio.nd (ve_bin ov_mul (ve_call (c__law_shared.mono (by decide)) hr body_takes (vds_cons (ve_var 0) (vds_cons (ve_var 1) (vds_nil)))) (ve_if (vb_cmp ov_gt (ve_var 1) (ve_int) (by rfl)) (ve_int) (ve_un uv_neg (ve_int))))) (vss_one (vs_ret (ve_tup (vds_cons (ve_bin ov_fdiv (ve_callTy cv_int (by rfl) bt.int bo_int (vds_cons (ve_var 0) (vds_nil))) (ve_var 2)) (vds_cons (ve_bin ov_fdiv (ve_callTy cv_int (by rfl) bt.int bo_int (vds_cons (ve_var 1) (vds_nil))) (ve_var 2)) (vds_nil))))))

/-! ### _law_plus -/
abbrev S__law_plus : Stmt := topS 20
theorem sc__law_plus : FnScope ["parts", "num", "den", "part"] ["parts"] (defScope S__law_plus) := ⟨rfl, rfl, rfl, by decide +kernel, rfl, by decide +kernel, by decide +kernel⟩
theorem w__law_plus (bt : Blt mg) (nd : base.NoDigits) (F : Fun K "_law_plus" "_law_plus" S__law_plus f fd) (b : Binds K fd ["parts"] []) (hm : mg "_law_plus" = some (.ref f)) (c__law_ratio : FnV P w K mg base "_law_ratio" 2 m__law_ratio) : FnV P w K mg base "_law_plus" 3 m__law_plus :=
  fnv_run (k := 2) F sc__law_plus hm b fun n cdv A outer s H E hr =>
    vss_cons (vs_parN (is := [1, 2]) rfl (vns_cons (i := 1) sc__law_plus.nd (vns_cons (i := 2) sc__law_plus.nd (vns_nil))) (vls_cons (ve_int) (vls_cons (ve_int) (vls_nil)))) (vss_cons (vs_for (vs := [3]) rfl (passes_of rfl) (vi_seq (ve_var 0)) (vg_nm (i := 3) sc__law_plus.nd) (vss_one (vs_par2 (i := 1) (j := 2) rfl sc__law_plus.nd (vls_cons (ve_bin ov_add (ve_bin ov_mul (ve_var 1) (ve_ixv (i := 3) (ve_int))) (ve_bin ov_mul (ve_ixv (i := 3) (ve_int)) (ve_var 2))) (vls_cons (ve_bin ov_mul (ve_var 2) (ve_ixv (i := 3) (ve_int))) (vls_nil))) (by rfl) rfl rfl))) (vss_one (vs_ret (ve_call (c__law_ratio.mono (by decide)) hr body_takes (vds_cons (ve_var 1) (vds_cons (ve_var 2) (vds_nil)))))))

/-! ### _law_minus -/
abbrev S__law_minus : Stmt := topS 21
theorem sc__law_minus : FnScope ["one", "other"] ["one", "other"] (defScope S__law_minus) := ⟨rfl, rfl, rfl, by decide +kernel, rfl, by decide +kernel, by decide +kernel⟩
theorem w__law_minus (bt : Blt mg) (nd : base.NoDigits) (F : Fun K "_law_minus" "_law_minus" S__law_minus f fd) (b : Binds K fd ["one", "other"] []) (hm : mg "_law_minus" = some (.ref f)) (c__law_ratio : FnV P w K mg base "_law_ratio" 2 m__law_ratio) : FnV P w K mg base "_law_minus" 3 m__law_minus :=
  fnv_run (k := 2) F sc__law_minus hm b fun n cdv A outer s H E hr =>
    vss_one (vs_ret (ve_call (c__law_ratio.mono (by decide)) hr body_takes (vds_cons (ve_bin ov_sub (ve_bin ov_mul (ve_ixv (i := 0) (ve_int)) (ve_ixv (i := 1) (ve_int))) (ve_bin ov_mul (ve_ixv (i := 1) (ve_int)) (ve_ixv (i := 0) (ve_int)))) (vds_cons (ve_bin ov_mul (ve_ixv (i := 0) (ve_int)) (ve_ixv (i := 1) (ve_int))) (vds_nil)))))

/-! ### _law_by -/
abbrev S__law_by : Stmt := topS 22
theorem sc__law_by : FnScope ["one", "other"] ["one", "other"] (defScope S__law_by) := ⟨rfl, rfl, rfl, by decide +kernel, rfl, by decide +kernel, by decide +kernel⟩
theorem w__law_by (bt : Blt mg) (nd : base.NoDigits) (F : Fun K "_law_by" "_law_by" S__law_by f fd) (b : Binds K fd ["one", "other"] []) (hm : mg "_law_by" = some (.ref f)) (c__law_ratio : FnV P w K mg base "_law_ratio" 2 m__law_ratio) : FnV P w K mg base "_law_by" 3 m__law_by :=
  fnv_run (k := 2) F sc__law_by hm b fun n cdv A outer s H E hr =>
    vss_one (vs_ret (ve_call (c__law_ratio.mono (by decide)) hr body_takes (vds_cons (ve_bin ov_mul (ve_ixv (i := 0) (ve_int)) (ve_ixv (i := 1) (ve_int))) (vds_cons (ve_bin ov_mul (ve_ixv (i := 0) (ve_int)) (ve_ixv (i := 1) (ve_int))) (vds_nil)))))

/-! ### _law_over -/
abbrev S__law_over : Stmt := topS 23
theorem sc__law_over : FnScope ["one", "other"] ["one", "other"] (defScope S__law_over) := ⟨rfl, rfl, rfl, by decide +kernel, rfl, by decide +kernel, by decide +kernel⟩
theorem w__law_over (bt : Blt mg) (nd : base.NoDigits) (F : Fun K "_law_over" "_law_over" S__law_over f fd) (b : Binds K fd ["one", "other"] []) (hm : mg "_law_over" = some (.ref f)) (c__law_ratio : FnV P w K mg base "_law_ratio" 2 m__law_ratio) : FnV P w K mg base "_law_over" 3 m__law_over :=
  fnv_run (k := 2) F sc__law_over hm b fun n cdv A outer s H E hr =>
    vss_one (vs_ret (ve_call (c__law_ratio.mono (by decide)) hr body_takes (vds_cons (ve_bin ov_mul (ve_ixv (i := 0) (ve_int)) (ve_ixv (i := 1) (ve_int))) (vds_cons (ve_bin ov_mul (ve_ixv (i := 0) (ve_int)) (ve_ixv (i := 1) (ve_int))) (vds_nil)))))

/-! ### _law_below -/
abbrev S__law_below : Stmt := topS 24
theorem sc__law_below : FnScope ["one", "other"] ["one", "other"] (defScope S__law_below) := ⟨rfl, rfl, rfl, by decide +kernel, rfl, by decide +kernel, by decide +kernel⟩
theorem w__law_below (bt : Blt mg) (nd : base.NoDigits) (F : Fun K "_law_below" "_law_below" S__law_below f fd) (b : Binds K fd ["one", "other"] []) (hm : mg "_law_below" = some (.ref f)) : FnV P w K mg base "_law_below" 1 m__law_below :=
  fnv_run (k := 0) F sc__law_below hm b fun n cdv A outer s H E hr =>
    vss_one (vs_ret (ve_cmp ov_lt (ve_bin ov_mul (ve_ixv (i := 0) (ve_int)) (ve_ixv (i := 1) (ve_int))) (ve_bin ov_mul (ve_ixv (i := 1) (ve_int)) (ve_ixv (i := 0) (ve_int))) (by rfl)))

def b1__law_lowest (n : Nat) : MS := sSet 1 (vIf (vB (vCall m__law_below (vCons (vVar 2) (vCons (vVar 1) (vNil))))) (vVar 2) (vVar 1))
/-! ### _law_lowest -/
abbrev S__law_lowest : Stmt := topS 25
theorem sc__law_lowest : FnScope ["parts", "found", "part"] ["parts"] (defScope S__law_lowest) := ⟨rfl, rfl, rfl, by decide +kernel, rfl, by decide +kernel, by decide +kernel⟩
def g__law_lowest (n : Nat) : MS := sSeq (sSet 1 (vIxv 0 (vC (.int 0)))) (sSeq (sFor (vItems (vVar 0)) (pNm 2) (b1__law_lowest n)) (sRetV 1))
def m__law_lowest : List D → Option Out := runM 1 3 g__law_lowest (fun _ => 0)
theorem w__law_lowest (bt : Blt mg) (nd : base.NoDigits) (F : Fun K "_law_lowest" "_law_lowest" S__law_lowest f fd) (b : Binds K fd ["parts"] []) (hm : mg "_law_lowest" = some (.ref f)) (c__law_below : FnV P w K mg base "_law_below" 1 m__law_below) : FnV P w K mg base "_law_lowest" 2 m__law_lowest :=
  fnv_run (k := 1) F sc__law_lowest hm b fun n cdv A outer s H E hr =>
    vss_cons (vs_set (i := 1) sc__law_lowest.nd (ve_ixv (i := 0) (ve_int))) (vss_cons (vs_for (vs := [2]) rfl (passes_of rfl) (vi_seq (ve_var 0)) (vg_nm (i := 2) sc__law_lowest.nd) (vss_one (vs_set (i := 1) sc__law_lowest.nd (ve_if (vb_val (ve_call (c__law_below.mono (by decide)) hr body_takes (vds_cons (ve_var 2) (vds_cons (ve_var 1) (vds_nil))))) (ve_var 2) (ve_var 1))))) (vss_one (vs_retv 1)))

/-! ### _law_highest -/
abbrev S__law_highest : Stmt := topS 26
theorem sc__law_highest : FnScope ["parts", "found", "part"] ["parts"] (defScope S__law_highest) := ⟨rfl, rfl, rfl, by decide +kernel, rfl, by decide +kernel, by decide +kernel⟩
theorem w__law_highest (bt : Blt mg) (nd : base.NoDigits) (F : Fun K "_law_highest" "_law_highest" S__law_highest f fd) (b : Binds K fd ["parts"] []) (hm : mg "_law_highest" = some (.ref f)) (c__law_below : FnV P w K mg base "_law_below" 1 m__law_below) : FnV P w K mg base "_law_highest" 2 m__law_highest :=
  fnv_run (k := 1) F sc__law_highest hm b fun n cdv A outer s H E hr =>
    vss_cons (vs_set (i := 1) sc__law_highest.nd (ve_ixv (i := 0) (ve_int))) (vss_cons (vs_for (vs := [2]) rfl (passes_of rfl) (vi_seq (ve_var 0)) (vg_nm (i := 2) sc__law_highest.nd) (vss_one (vs_set (i := 1) sc__law_highest.nd (ve_if (vb_val (ve_call (c__law_below.mono (by decide)) hr body_takes (vds_cons (ve_var 1) (vds_cons (ve_var 2) (vds_nil))))) (ve_var 2) (ve_var 1))))) (vss_one (vs_retv 1)))

/-! ### _law_part -/
abbrev S__law_part : Stmt := topS 27
theorem sc__law_part : FnScope ["bag", "num"] ["bag"] (defScope S__law_part) := ⟨rfl, rfl, rfl, by decide +kernel, rfl, by decide +kernel, by decide +kernel⟩
def g__law_part (n : Nat) : MS := sSeq (sSet 1 (vCallB 0 m__law_one (vCons (vLst (vCons (vC (.int 0)) (vCons (vC (.int 1)) (vCons (vUn dNeg (vC (.int 1))) (vCons (vC (.int 2)) (vCons (vC (.int 6)) (vCons (vUn dNeg (vC (.int 12))) (vCons (vC (.int 999999999)) (vCons (vUn dNeg (vC (.int 999999998))) (vCons (vOp dSub (vCallB 0 m__law_take (vCons (vC (.int 1000)) (vNil))) (vC (.int 500))) (vNil))))))))))) (vNil)))) (sRet (vCall m__law_ratio (vCons (vVar 1) (vCons (vCallB 0 m__law_one (vCons (vLst (vCons (vC (.int 1)) (vCons (vC (.int 2)) (vCons (vC (.int 3)) (vCons (vC (.int 4)) (vCons (vC (.int 6)) (vCons (vC (.int 12)) (vCons (vC (.int 999999999)) (vCons (vOp dAdd (vC (.int 1)) (vCallB 0 m__law_take (vCons (vC (.int 1000)) (vNil)))) (vNil)))))))))) (vNil))) (vNil)))))
def m__law_part : List D → List D → Option (Out × List D) := runB 1 2 g__law_part (fun _ _ => 0)
theorem w__law_part (bt : Blt mg) (nd : base.NoDigits) (F : Fun K "_law_part" "_law_part" S__law_part f fd) (b : Binds K fd ["bag"] []) (hm : mg "_law_part" = some (.ref f)) (c__law_one : FnB P w K mg base "_law_one" 2 m__law_one) (c__law_ratio : FnV P w K mg base "_law_ratio" 2 m__law_ratio) (c__law_take : FnB P w K mg base "_law_take" 1 m__law_take) : FnB P w K mg base "_law_part" 3 m__law_part :=
  fnb_run (k := 2) F sc__law_part hm b fun n cdv A outer s H E hr =>
    vss_cons (vs_set (i := 1) sc__law_part.nd (ve_callBag (i := 0) (c__law_one.mono (by decide)) hr body_takes (vds_cons (ve_lst (vds_cons (ve_int) (vds_cons (ve_int) (vds_cons (ve_un uv_neg (ve_int)) (vds_cons (ve_int) (vds_cons (ve_int) (vds_cons (ve_un uv_neg (ve_int)) (vds_cons (ve_int) (vds_cons (ve_un uv_neg (ve_int)) (vds_cons (ve_bin ov_sub (ve_callBag (i := 0) (c__law_take.mono (by decide)) hr body_takes (vds_cons (ve_int) (vds_nil))) (ve_int)) (vds_nil))))))))))) (vds_nil)))) (vss_one (vs_ret (ve_call (c__law_ratio.mono (by decide)) hr body_takes (vds_cons (ve_var 1) (vds_cons (ve_callBag (i := 0) (c__law_one.mono (by decide)) hr body_takes (vds_cons (ve_lst (vds_cons (ve_int) (vds_cons (ve_int) (vds_cons (ve_int) (vds_cons (ve_int) (vds_cons (ve_int) (vds_cons (ve_int) (vds_cons (ve_int) (vds_cons (ve_bin ov_add (ve_int) (ve_callBag (i := 0) (c__law_take.mono (by decide)) hr body_takes (vds_cons (ve_int) (vds_nil)))) (vds_nil)))))))))) (vds_nil))) (vds_nil))))))

/-! ### _law_are_sums_right -/
abbrev S__law_are_sums_right : Stmt := topS 28
theorem sc__law_are_sums_right : FnScope ["one", "other", "due"] ["one", "other"] (defScope S__law_are_sums_right) := ⟨rfl, rfl, rfl, by decide +kernel, rfl, by decide +kernel, by decide +kernel⟩
def g__law_are_sums_right (n : Nat) : MS := sSeq (sSet 2 (vLst (vCons (vCall m__law_minus (vCons (vVar 0) (vCons (vVar 1) (vNil)))) (vCons (vCall m__law_by (vCons (vVar 0) (vCons (vVar 1) (vNil)))) (vCons (vCall m__law_plus (vCons (vLst (vCons (vVar 0) (vCons (vVar 1) (vNil)))) (vNil))) (vCons (vCall m__law_plus (vCons (vLst (vCons (vVar 0) (vCons (vVar 1) (vCons (vVar 0) (vNil))))) (vNil))) (vNil))))))) (sSeq (sIf (bNot (vB (vCall m__law_alike (vCons (vLst (vCons (vCall m_less (vCons (vVar 0) (vCons (vVar 1) (vNil)))) (vCons (vCall m_times (vCons (vVar 0) (vCons (vVar 1) (vNil)))) (vCons (vCall m_added (vCons (vTup (vCons (vVar 0) (vCons (vVar 1) (vNil)))) (vNil))) (vCons (vCall m_added (vCons (vLst (vCons (vVar 0) (vCons (vVar 1) (vCons (vVar 0) (vNil))))) (vNil))) (vNil)))))) (vCons (vVar 2) (vNil)))))) (sRet (vC (.bool false))) (sNil)) (sSeq (sIf (bAnd (vB (vOp dNe (vIxv 1 (vC (.int 0))) (vC (.int 0)))) (bNot (vB (vCall m__law_alike (vCons (vCall m_over (vCons (vVar 0) (vCons (vVar 1) (vNil)))) (vCons (vCall m__law_over (vCons (vVar 0) (vCons (vVar 1) (vNil)))) (vNil))))))) (sRet (vC (.bool false))) (sNil)) (sRet (vCall m__law_alike (vCons (vCall m_compared (vCons (vVar 0) (vCons (vVar 1) (vNil)))) (vCons (vOp dSub (vCb dInt (vCons (vCall m__law_below (vCons (vVar 1) (vCons (vVar 0) (vNil)))) (vNil))) (vCb dInt (vCons (vCall m__law_below (vCons (vVar 0) (vCons (vVar 1) (vNil)))) (vNil)))) (vNil)))))))
def m__law_are_sums_right : List D → Option Out := runM 2 3 g__law_are_sums_right (fun _ => 0)
theorem w__law_are_sums_right (bt : Blt mg) (nd : base.NoDigits) (F : Fun K "_law_are_sums_right" "_law_are_sums_right" S__law_are_sums_right f fd) (b : Binds K fd ["one", "other"] []) (hm : mg "_law_are_sums_right" = some (.ref f)) (c__law_alike : FnV P w K mg base "_law_alike" 1 m__law_alike) (c__law_minus : FnV P w K mg base "_law_minus" 3 m__law_minus) (c__law_by : FnV P w K mg base "_law_by" 3 m__law_by) (c__law_plus : FnV P w K mg base "_law_plus" 3 m__law_plus) (c_compared : FnV P w K mg base "compared" 1 m_compared) (c_less : FnV P w K mg base "less" 3 m_less) (c_times : FnV P w K mg base "times" 3 m_times) (c_added : FnV P w K mg base "added" 3 m_added) (c_over : FnV P w K mg base "over" 3 m_over) (c__law_over : FnV P w K mg base "_law_over" 3 m__law_over) (c__law_below : FnV P w K mg base "_law_below" 1 m__law_below) : FnV P w K mg base "_law_are_sums_right" 4 m__law_are_sums_right :=
  fnv_run (k := 3) F sc__law_are_sums_right hm b fun n cdv A outer s H E hr =>
    vss_cons (vs_set (i := 2) sc__law_are_sums_right.nd (ve_lst (vds_cons (ve_call (c__law_minus.mono (by decide)) hr body_takes (vds_cons (ve_var 0) (vds_cons (ve_var 1) (vds_nil)))) (vds_cons (ve_call (c__law_by.mono (by decide)) hr body_takes (vds_cons (ve_var 0) (vds_cons (ve_var 1) (vds_nil)))) (vds_cons (ve_call (c__law_plus.mono (by decide)) hr body_takes (vds_cons (ve_lst (vds_cons (ve_var 0) (vds_cons (ve_var 1) (vds_nil)))) (vds_nil))) (vds_cons (ve_call (c__law_plus.mono (by decide)) hr body_takes (vds_cons (ve_lst (vds_cons (ve_var 0) (vds_cons (ve_var 1) (vds_cons (ve_var 0) (vds_nil))))) (vds_nil))) (vds_nil))))))) (vss_cons (vs_if (vb_not (vb_val (ve_call (c__law_alike.mono (by decide)) hr body_takes (vds_cons (ve_lst (vds_cons (ve_call (c_less.mono (by decide)) hr body_takes (vds_cons (ve_var 0) (vds_cons (ve_var 1) (vds_nil)))) (vds_cons (ve_call (c_times.mono (by decide)) hr body_takes (vds_cons (ve_var 0) (vds_cons (ve_var 1) (vds_nil)))) (vds_cons (ve_call (c_added.mono (by decide)) hr body_takes (vds_cons (ve_tup (vds_cons (ve_var 0) (vds_cons (ve_var 1) (vds_nil)))) (vds_nil))) (vds_cons (ve_call (c_added.mono (by decide)) hr body_takes (vds_cons (ve_lst (vds_cons (ve_var 0) (vds_cons (ve_var 1) (vds_cons (ve_var 0) (vds_nil))))) (vds_nil))) (vds_nil)))))) (vds_cons (ve_var 2) (vds_nil)))))) (vss_one (vs_ret (ve_bl))) (vss_nil)) (vss_cons (vs_if ((vw_and (vb_cmp (ov_ne (hr.mono (Nat.zero_le _))) (ve_ixv (i := 1) (ve_int)) (ve_int) (by rfl)) (vw_and1 (vb_not (vb_val (ve_call (c__law_alike.mono (by decide)) hr body_takes (vds_cons (ve_call (c_over.mono (by decide)) hr body_takes (vds_cons (ve_var 0) (vds_cons (ve_var 1) (vds_nil)))) (vds_cons (ve_call (c__law_over.mono (by decide)) hr body_takes (vds_cons (ve_var 0) (vds_cons (ve_var 1) (vds_nil)))) (vds_nil)))))))).vb) (vss_one (vs_ret (ve_bl))) (vss_nil)) (vss_one (vs_ret (ve_call (c__law_alike.mono (by decide)) hr body_takes (vds_cons (ve_call (c_compared.mono (by decide)) hr body_takes (vds_cons (ve_var 0) (vds_cons (ve_var 1) (vds_nil)))) (vds_cons (ve_bin ov_sub (ve_callTy cv_int (by rfl) bt.int bo_int (vds_cons (ve_call (c__law_below.mono (by decide)) hr body_takes (vds_cons (ve_var 1) (vds_cons (ve_var 0) (vds_nil)))) (vds_nil))) (ve_callTy cv_int (by rfl) bt.int bo_int (vds_cons (ve_call (c__law_below.mono (by decide)) hr body_takes (vds_cons (ve_var 0) (vds_cons (ve_var 1) (vds_nil)))) (vds_nil)))) (vds_nil))))))))

def b1_law (n : Nat) : MS := sPar [2, 3] (lCons (vVar 3) (lCons (vOp dAdd (vVar 2) (vVar 3)) (lNil)))
def e1_law (n : Nat) : M Sl := vCallB 1 m__law_part (vNil)
def b2_law (n : Nat) : MS := sSet 7 (vOp dFdiv (vCb dInt (vCons (vOp dMul2 (vVar 7) (vIxv 8 (vC (.int 1)))) (vNil))) (vCall m__law_shared (vCons (vVar 7) (vCons (vIxv 8 (vC (.int 1))) (vNil)))))
def b3_law (n : Nat) : MS := sIf (bNot (vB (vCall m__law_are_sums_right (vCons (vVar 2) (vCons (vVar 3) (vNil)))))) (sRet (vC (.bool false))) (sNil)
def s1_law (n : Nat) : MS := sSet 5 (vLc (vRng1 (vCons (vCallB 1 m__law_take (vCons (vC (.int 10)) (vNil))) (vNil))) (pNm 12) (bYes) (e1_law n) [12])
def s2_law (n : Nat) : MS := sSet 5 (vOp dAdd (vVar 5) (vSlv 5 (oNone) (oSome (vCallB 1 m__law_take (vCons (vC (.int 2)) (vNil))))))
def s3_law (n : Nat) : MS := sPar [6, 7] (lCons (vCb dReprB (vCons (vVar 5) (vNil))) (lCons (vC (.int 1)) (lNil)))
def s4_law (n : Nat) : MS := sIf (bNot (vB (vCall m__law_alike (vCons (vLst (vCons (vCall m_added (vCons (vVar 5) (vNil))) (vCons (vCall m_added (vCons (vCb dTuple (vCons (vVar 5) (vNil))) (vNil))) (vCons (vCall m_common_den (vCons (vVar 5) (vNil))) (vNil))))) (vCons (vOp dAdd (vOp dMul2 (vLst (vCons (vCall m__law_plus (vCons (vVar 5) (vNil))) (vNil))) (vC (.int 2))) (vLst (vCons (vVar 7) (vNil)))) (vNil)))))) (sRet (vC (.bool false))) (sNil)
def s5_law (n : Nat) : MS := sIf (vB (vOp dNe (vCall m_common_den (vCons (vCb dTuple (vCons (vVar 5) (vNil))) (vNil))) (vVar 7))) (sRet (vC (.bool false))) (sNil)
def s6_law (n : Nat) : MS := sIf (vB (vOp dNe (vVar 5) (vLst (vNil)))) (sSeq (sSet 9 (vLst (vCons (vCall m_least_of (vCons (vVar 5) (vNil))) (vCons (vCall m_least_of (vCons (vCb dTuple (vCons (vVar 5) (vNil))) (vNil))) (vCons (vCall m_greatest_of (vCons (vCb dTuple (vCons (vVar 5) (vNil))) (vNil))) (vCons (vCall m_greatest_of (vCons (vVar 5) (vNil))) (vNil))))))) (sIf (bNot (vB (vCall m__law_alike (vCons (vVar 9) (vCons (vOp dAdd (vOp dMul2 (vLst (vCons (vCall m__law_lowest (vCons (vVar 5) (vNil))) (vNil))) (vC (.int 2))) (vOp dMul2 (vLst (vCons (vCall m__law_highest (vCons (vVar 5) (vNil))) (vNil))) (vC (.int 2)))) (vNil)))))) (sRet (vC (.bool false))) (sNil))) (sNil)
def s7_law (n : Nat) : MS := sPar [2, 3] (lCons (vCallB 1 m__law_part (vNil)) (lCons (vCallB 1 m__law_part (vNil)) (lNil)))
def s8_law (n : Nat) : MS := sSet 10 (vCall m_times (vCons (vCall m_added (vCons (vVar 5) (vNil))) (vCons (vCall m_times (vCons (vVar 2) (vCons (vVar 3) (vNil)))) (vNil))))
def s9_law (n : Nat) : MS := sIf (bNot (vB (vCall m__law_alike (vCons (vVar 10) (vCons (vCall m__law_by (vCons (vCall m__law_plus (vCons (vVar 5) (vNil))) (vCons (vCall m__law_by (vCons (vVar 2) (vCons (vVar 3) (vNil)))) (vNil)))) (vNil)))))) (sRet (vC (.bool false))) (sNil)
def s10_law (n : Nat) : MS := sFor (vItems (vTup (vCons (vTup (vCons (vCallB 1 m__law_part (vNil)) (vCons (vCallB 1 m__law_part (vNil)) (vNil)))) (vCons (vTup (vCons (vVar 10) (vCons (vCallB 1 m__law_part (vNil)) (vNil)))) (vCons (vTup (vCons (vVar 10) (vCons (vVar 10) (vNil)))) (vCons (vTup (vCons (vTup (vCons (vC (.int 0)) (vCons (vC (.int 1)) (vNil)))) (vCons (vVar 10) (vNil)))) (vNil))))))) (pTup (pCons (pNm 2) (pCons (pNm 3) (pNil)))) (b3_law n)
def s11_law (n : Nat) : MS := sPar [11, 7] (lCons (vOp dSub (vCallB 1 m__law_take (vCons (vC (.int 2000)) (vNil))) (vC (.int 1000))) (lCons (vCallB 1 m__law_one (vCons (vLst (vCons (vC (.int 1)) (vCons (vUn dNeg (vC (.int 1))) (vCons (vC (.int 6)) (vCons (vUn dNeg (vC (.int 6))) (vCons (vC (.int 1000)) (vCons (vUn dNeg (vC (.int 35))) (vCons (vOp dPow (vC (.int 10)) (vC (.int 30))) (vNil))))))))) (vNil))) (lNil)))
def s12_law (n : Nat) : MS := sIf (bOr (bNot (vB (vCall m__law_alike (vCons (vCall m_reduced (vCons (vOp dMul2 (vVar 11) (vC (.int 6))) (vCons (vVar 7) (vNil)))) (vCons (vCall m__law_ratio (vCons (vOp dMul2 (vVar 11) (vC (.int 6))) (vCons (vVar 7) (vNil)))) (vNil)))))) (vB (vOp dNe (vCb dReprB (vCons (vVar 5) (vNil))) (vVar 6)))) (sRet (vC (.bool false))) (sNil)
def b4_law (n : Nat) : MS := sSeq (s1_law n) (sSeq (s2_law n) (sSeq (s3_law n) (sSeq (sFor (vItems (vVar 5)) (pNm 8) (b2_law n)) (sSeq (s4_law n) (sSeq (s5_law n) (sSeq (s6_law n) (sSeq (s7_law n) (sSeq (s8_law n) (sSeq (s9_law n) (sSeq (s10_law n) (sSeq (s11_law n) (s12_law n))))))))))))
def s13_law (n : Nat) : MS := sPar [1, 2, 3] (lCons (vCall m__law_bag (vCons (vVar 0) (vNil))) (lCons (vC (.int 1)) (lCons (vC (.int 1)) (lNil))))
def s14_law (n : Nat) : MS := sFor (vRng1 (vCons (vOp dAdd (vC (.int 1380)) (vCallB 1 m__law_take (vCons (vC (.int 5)) (vNil)))) (vNil))) (pNm 4) (b1_law n)
def s15_law (n : Nat) : MS := sIf (bOr (bNot (vB (vCall m__law_are_sums_right (vCons (vTup (vCons (vVar 2) (vCons (vVar 3) (vNil)))) (vCons (vTup (vCons (vVar 3) (vCons (vVar 2) (vNil)))) (vNil)))))) (bNot (vB (vCall m__law_alike (vCons (vCall m_reduced (vCons (vOp dMul2 (vVar 2) (vC (.int 6))) (vCons (vOp dMul2 (vVar 3) (vC (.int 6))) (vNil)))) (vCons (vTup (vCons (vVar 2) (vCons (vVar 3) (vNil)))) (vNil))))))) (sRet (vC (.bool false))) (sNil)
/-! ### law -/
abbrev S_law : Stmt := topS 29
theorem sc_law : FnScope ["script", "bag", "one", "other", "turn", "parts", "said", "den", "part", "told", "whole", "num", "k"] ["script"] (defScope S_law) := ⟨rfl, rfl, rfl, by decide +kernel, rfl, by decide +kernel, by decide +kernel⟩
def g_law (n : Nat) : MS := sSeq (s13_law n) (sSeq (s14_law n) (sSeq (s15_law n) (sSeq (sFor (vRng1 (vCons (vC (.int 12)) (vNil))) (pNm 4) (b4_law n)) (sRet (vC (.bool true))))))
def m_law : List D → Option Out := runM 1 13 g_law (fun _ => 0)
theorem w_law (bt : Blt mg) (nd : base.NoDigits) (F : Fun K "law" "law" S_law f fd) (c__law_bag : FnV P w K mg base "_law_bag" 1 m__law_bag) (c_times : FnV P w K mg base "times" 3 m_times) (c__law_take : FnB P w K mg base "_law_take" 1 m__law_take) (c__law_are_sums_right : FnV P w K mg base "_law_are_sums_right" 4 m__law_are_sums_right) (c__law_alike : FnV P w K mg base "_law_alike" 1 m__law_alike) (c__law_part : FnB P w K mg base "_law_part" 3 m__law_part) (c_common_den : FnV P w K mg base "common_den" 2 m_common_den) (c_added : FnV P w K mg base "added" 3 m_added) (c__law_one : FnB P w K mg base "_law_one" 2 m__law_one) (c_reduced : FnV P w K mg base "reduced" 2 m_reduced) (c__law_shared : FnV P w K mg base "_law_shared" 1 m__law_shared) (c_least_of : FnV P w K mg base "least_of" 2 m_least_of) (c_greatest_of : FnV P w K mg base "greatest_of" 2 m_greatest_of) (c__law_by : FnV P w K mg base "_law_by" 3 m__law_by) (c__law_plus : FnV P w K mg base "_law_plus" 3 m__law_plus) (c__law_ratio : FnV P w K mg base "_law_ratio" 2 m__law_ratio) (c__law_lowest : FnV P w K mg base "_law_lowest" 2 m__law_lowest) (c__law_highest : FnV P w K mg base "_law_highest" 2 m__law_highest) : FnG P w K mg base 5 f fd ["script"] (spV K mg m_law) :=
  fng_run (k := 4) F sc_law fun n cdv A outer s H E hr =>
    vss_cons (vs_parN (is := [1, 2, 3]) rfl (vns_cons (i := 1) sc_law.nd (vns_cons (i := 2) sc_law.nd (vns_cons (i := 3) sc_law.nd (vns_nil)))) (vls_cons (ve_call (c__law_bag.mono (by decide)) hr body_takes (vds_cons (ve_var 0) (vds_nil))) (vls_cons (ve_int) (vls_cons (ve_int) (vls_nil))))) (vss_cons (vs_for (vs := [4]) rfl (passes_of rfl) (wi_range1 (by rfl) bt.range (vds_cons (ve_bin ov_add (ve_int) (ve_callBag (i := 1) (c__law_take.mono (by decide)) hr body_takes (vds_cons (ve_int) (vds_nil)))) (vds_nil))) (vg_nm (i := 4) sc_law.nd) (vss_one (vs_par2 (i := 2) (j := 3) rfl sc_law.nd (vls_cons (ve_var 3) (vls_cons (ve_bin ov_add (ve_var 2) (ve_var 3)) (vls_nil))) (by rfl) rfl rfl))) (vss_cons (vs_if ((vw_or (vb_not (vb_val (ve_call (c__law_are_sums_right.mono (by decide)) hr body_takes (vds_cons (ve_tup (vds_cons (ve_var 2) (vds_cons (ve_var 3) (vds_nil)))) (vds_cons (ve_tup (vds_cons (ve_var 3) (vds_cons (ve_var 2) (vds_nil)))) (vds_nil)))))) (vw_or1 (vb_not (vb_val (ve_call (c__law_alike.mono (by decide)) hr body_takes (vds_cons (ve_call (c_reduced.mono (by decide)) hr body_takes (vds_cons (ve_bin ov_mul2 (ve_var 2) (ve_int)) (vds_cons (ve_bin ov_mul2 (ve_var 3) (ve_int)) (vds_nil)))) (vds_cons (ve_tup (vds_cons (ve_var 2) (vds_cons (ve_var 3) (vds_nil)))) (vds_nil)))))))).vb) (vss_one (vs_ret (ve_bl))) (vss_nil)) (vss_cons (vs_for (vs := [4]) rfl (passes_of rfl) (wi_range1 (by rfl) bt.range (vds_cons (ve_int) (vds_nil))) (vg_nm (i := 4) sc_law.nd) (vss_cons (vs_setLc (i := 5) [("k", 12)] rfl sc_law.nd (sw_true (by rfl) (by rfl) (by rfl) (by rfl)) rfl (blkOk_by (by rfl)) (wi_range1 (by rfl) bt.range (vds_cons (ve_callBag (i := 1) (c__law_take.mono (by decide)) hr body_takes (vds_cons (ve_int) (vds_nil))) (vds_nil))) (fun s H C cl fp => vg_nm (i := 12) sc_law.nd) (fun s H C cl fp => vts_nil) (fun s H C cl fp => ve_callBag (i := 1) (c__law_part.mono (by decide)) hr tk0 (vds_nil))) (vss_cons (vs_set (i := 5) sc_law.nd (ve_bin ov_add (ve_var 5) (ve_slv (i := 5) (vo_none) (vo_some (ve_callBag (i := 1) (c__law_take.mono (by decide)) hr body_takes (vds_cons (ve_int) (vds_nil))))))) (vss_cons (vs_par2 (i := 6) (j := 7) rfl sc_law.nd (vls_cons (ve_callB (cv_reprB nd (hr.mono (Nat.zero_le _))) (by rfl) bt.repr bo_repr (vds_cons (ve_var 5) (vds_nil))) (vls_cons (ve_int) (vls_nil))) (by rfl) rfl rfl) (vss_cons (vs_for (vs := [8]) rfl (passes_of rfl) (vi_seq (ve_var 5)) (vg_nm (i := 8) sc_law.nd) (vss_one (vs_set (i := 7) sc_law.nd (ve_bin ov_fdiv (ve_callTy cv_int (by rfl) bt.int bo_int (vds_cons (ve_bin ov_mul2 (ve_var 7) (ve_ixv (i := 8) (ve_int))) (vds_nil))) (ve_call (c__law_shared.mono (by decide)) hr body_takes (vds_cons (ve_var 7) (vds_cons (ve_ixv (i := 8) (ve_int)) (vds_nil)))))))) (vss_cons (vs_if (vb_not (vb_val (ve_call (c__law_alike.mono (by decide)) hr body_takes (vds_cons (ve_lst (vds_cons (ve_call (c_added.mono (by decide)) hr body_takes (vds_cons (ve_var 5) (vds_nil))) (vds_cons (ve_call (c_added.mono (by decide)) hr body_takes (vds_cons (ve_callTy cv_tuple (by rfl) bt.tuple bo_tuple (vds_cons (ve_var 5) (vds_nil))) (vds_nil))) (vds_cons (ve_call (c_common_den.mono (by decide)) hr body_takes (vds_cons (ve_var 5) (vds_nil))) (vds_nil))))) (vds_cons (ve_bin ov_add (ve_bin ov_mul2 (ve_lst (vds_cons (ve_call (c__law_plus.mono (by decide)) hr body_takes (vds_cons (ve_var 5) (vds_nil))) (vds_nil))) (ve_int)) (ve_lst (vds_cons (ve_var 7) (vds_nil)))) (vds_nil)))))) (vss_one (vs_ret (ve_bl))) (vss_nil)) (vss_cons (vs_if (vb_cmp (ov_ne (hr.mono (Nat.zero_le _))) (ve_call (c_common_den.mono (by decide)) hr body_takes (vds_cons (ve_callTy cv_tuple (by rfl) bt.tuple bo_tuple (vds_cons (ve_var 5) (vds_nil))) (vds_nil))) (ve_var 7) (by rfl)) (vss_one (vs_ret (ve_bl))) (vss_nil)) (vss_cons (vs_if (vb_cmp (ov_ne (hr.mono (Nat.zero_le _))) (ve_var 5) (ve_lst (vds_nil)) (by rfl)) (vss_cons (vs_set (i := 9) sc_law.nd (ve_lst (vds_cons (ve_call (c_least_of.mono (by decide)) hr body_takes (vds_cons (ve_var 5) (vds_nil))) (vds_cons (ve_call (c_least_of.mono (by decide)) hr body_takes (vds_cons (ve_callTy cv_tuple (by rfl) bt.tuple bo_tuple (vds_cons (ve_var 5) (vds_nil))) (vds_nil))) (vds_cons (ve_call (c_greatest_of.mono (by decide)) hr body_takes (vds_cons (ve_callTy cv_tuple (by rfl) bt.tuple bo_tuple (vds_cons (ve_var 5) (vds_nil))) (vds_nil))) (vds_cons (ve_call (c_greatest_of.mono (by decide)) hr body_takes (vds_cons (ve_var 5) (vds_nil))) (vds_nil))))))) (vss_one (vs_if (vb_not (vb_val (ve_call (c__law_alike.mono (by decide)) hr body_takes (vds_cons (ve_var 9) (vds_cons (ve_bin ov_add (ve_bin ov_mul2 (ve_lst (vds_cons (ve_call (c__law_lowest.mono (by decide)) hr body_takes (vds_cons (ve_var 5) (vds_nil))) (vds_nil))) (ve_int)) (ve_bin ov_mul2 (ve_lst (vds_cons (ve_call (c__law_highest.mono (by decide)) hr body_takes (vds_cons (ve_var 5) (vds_nil))) (vds_nil))) (ve_int))) (vds_nil)))))) (vss_one (vs_ret (ve_bl))) (vss_nil)))) (vss_nil)) (vss_cons (vs_par2 (i := 2) (j := 3) rfl sc_law.nd (vls_cons (ve_callBag (i := 1) (c__law_part.mono (by decide)) hr body_takes (vds_nil)) (vls_cons (ve_callBag (i := 1) (c__law_part.mono (by decide)) hr body_takes (vds_nil)) (vls_nil))) (by rfl) rfl rfl) (vss_cons (vs_set (i := 10) sc_law.nd (ve_call (c_times.mono (by decide)) hr body_takes (vds_cons (ve_call (c_added.mono (by decide)) hr body_takes (vds_cons (ve_var 5) (vds_nil))) (vds_cons (ve_call (c_times.mono (by decide)) hr body_takes (vds_cons (ve_var 2) (vds_cons (ve_var 3) (vds_nil)))) (vds_nil))))) (vss_cons (vs_if (vb_not (vb_val (ve_call (c__law_alike.mono (by decide)) hr body_takes (vds_cons (ve_var 10) (vds_cons (ve_call (c__law_by.mono (by decide)) hr body_takes (vds_cons (ve_call (c__law_plus.mono (by decide)) hr body_takes (vds_cons (ve_var 5) (vds_nil))) (vds_cons (ve_call (c__law_by.mono (by decide)) hr body_takes (vds_cons (ve_var 2) (vds_cons (ve_var 3) (vds_nil)))) (vds_nil)))) (vds_nil)))))) (vss_one (vs_ret (ve_bl))) (vss_nil)) (vss_cons (vs_for (vs := [2, 3]) rfl (passes_of rfl) (vi_seq (ve_tup (vds_cons (ve_tup (vds_cons (ve_callBag (i := 1) (c__law_part.mono (by decide)) hr body_takes (vds_nil)) (vds_cons (ve_callBag (i := 1) (c__law_part.mono (by decide)) hr body_takes (vds_nil)) (vds_nil)))) (vds_cons (ve_tup (vds_cons (ve_var 10) (vds_cons (ve_callBag (i := 1) (c__law_part.mono (by decide)) hr body_takes (vds_nil)) (vds_nil)))) (vds_cons (ve_tup (vds_cons (ve_var 10) (vds_cons (ve_var 10) (vds_nil)))) (vds_cons (ve_tup (vds_cons (ve_tup (vds_cons (ve_int) (vds_cons (ve_int) (vds_nil)))) (vds_cons (ve_var 10) (vds_nil)))) (vds_nil))))))) (vg_tup rfl (vgs_cons (vg_nm (i := 2) sc_law.nd) (vgs_cons (vg_nm (i := 3) sc_law.nd) (vgs_nil))) (pCons_len (pCons_len pNil_len))) (vss_one (vs_if (vb_not (vb_val (ve_call (c__law_are_sums_right.mono (by decide)) hr body_takes (vds_cons (ve_var 2) (vds_cons (ve_var 3) (vds_nil)))))) (vss_one (vs_ret (ve_bl))) (vss_nil)))) (vss_cons (vs_par2 (i := 11) (j := 7) rfl sc_law.nd (vls_cons (ve_bin ov_sub (ve_callBag (i := 1) (c__law_take.mono (by decide)) hr body_takes (vds_cons (ve_int) (vds_nil))) (ve_int)) (vls_cons (ve_callBag (i := 1) (c__law_one.mono (by decide)) hr body_takes (vds_cons (ve_lst (vds_cons (ve_int) (vds_cons (ve_un uv_neg (ve_int)) (vds_cons (ve_int) (vds_cons (ve_un uv_neg (ve_int)) (vds_cons (ve_int) (vds_cons (ve_un uv_neg (ve_int)) (vds_cons (ve_bin ov_pow (ve_int) (ve_int)) (vds_nil))))))))) (vds_nil))) (vls_nil))) (by rfl) rfl rfl) (vss_one (vs_if ((vw_or (vb_not (vb_val (ve_call (c__law_alike.mono (by decide)) hr body_takes (vds_cons (ve_call (c_reduced.mono (by decide)) hr body_takes (vds_cons (ve_bin ov_mul2 (ve_var 11) (ve_int)) (vds_cons (ve_var 7) (vds_nil)))) (vds_cons (ve_call (c__law_ratio.mono (by decide)) hr body_takes (vds_cons (ve_bin ov_mul2 (ve_var 11) (ve_int)) (vds_cons (ve_var 7) (vds_nil)))) (vds_nil)))))) (vw_or1 (vb_cmp (ov_ne (hr.mono (Nat.zero_le _))) (ve_callB (cv_reprB nd (hr.mono (Nat.zero_le _))) (by rfl) bt.repr bo_repr (vds_cons (ve_var 5) (vds_nil))) (ve_var 6) (by rfl)))).vb) (vss_one (vs_ret (ve_bl))) (vss_nil)))))))))))))))) (vss_one (vs_ret (ve_bl))))))

end
end G11

namespace G11
open PySem Mv Sh Fr

@[simp] theorem mulI (i j : Int) : dMul2 (.int i) (.int j) = if mulOk i j then some (.val (.int (i * j))) else none := rfl
@[simp] theorem mulL (xs : List D) (j : D) : dMul2 (.list xs) j = dMul (.list xs) j := rfl
/-! ### what may be told, of long numbers -/
mutual
def wideL : D → Nat
  | .none => 4
  | .bool _ => 5
  | .int _ => 12901
  | .str _ => 0
  | .list xs => widesL xs + 3
  | .tuple xs => widesL xs + 3
  | .dict _ => 0
def widesL : List D → Nat
  | [] => 0
  | x :: xs => wideL x + 2 + widesL xs
end
mutual
def plainL : D → Prop
  | .none => True
  | .bool _ => True
  | .int i => i.natAbs.log2 < 12900
  | .str _ => False
  | .list xs => plainsL xs
  | .tuple xs => plainsL xs
  | .dict _ => False
def plainsL : List D → Prop
  | [] => True
  | x :: xs => plainL x ∧ plainsL xs
end
mutual
theorem plainL_ok : ∀ d : D, plainL d → tellB d = true ∧ d.shown.length ≤ wideL d ∧ d.canLay0 = true
  | .none, _ => ⟨by simp only [tellB], by simp only [PyData.shown, wideL]; decide, by simp only [PyData.canLay0]⟩
  | .bool b, _ => ⟨by simp only [tellB], by simp only [PyData.shown, wideL]; cases b <;> decide, by simp only [PyData.canLay0]⟩
  | .int i, h => by
    have h' : i.natAbs.log2 < 12900 := h
    refine ⟨by simp only [tellB]; exact decide_eq_true h', ?_, by simp only [PyData.canLay0]⟩
    simp only [PyData.shown, wideL]
    have e : (Str.ofString (toString i)).length = (toString i).length := ofString_length _
    have e2 := int_text_length_le (k := 12900) (by decide) h'
    show (Str.ofString (toString i)).length ≤ 12901
    omega
  | .str _, h => h.elim
  | .list xs, h => by
    obtain ⟨h1, h2, h3⟩ := plainsL_ok xs h
    refine ⟨by simpa only [tellB] using h1, ?_, by simpa only [PyData.canLay0] using h3⟩
    simp only [PyData.shown, wideL]
    have := listText_len_le (PyData.shownAll xs)
    omega
  | .tuple xs, h => by
    obtain ⟨h1, h2, h3⟩ := plainsL_ok xs h
    refine ⟨by simpa only [tellB] using h1, ?_, by simpa only [PyData.canLay0] using h3⟩
    simp only [PyData.shown, wideL]
    have := tupleText_len_le (PyData.shownAll xs)
    omega
  | .dict _, h => h.elim
theorem plainsL_ok : ∀ ds : List D, plainsL ds → tellBs ds = true ∧ ((PyData.shownAll ds).map (·.length)).sum + 2 * (PyData.shownAll ds).length ≤ widesL ds ∧ PyData.canLayAll0 ds = true
  | [], _ => ⟨by simp only [tellBs], by simp [PyData.shownAll, widesL], by simp only [PyData.canLayAll0]⟩
  | d :: ds, h => by
    obtain ⟨a1, a2, a3⟩ := plainL_ok d h.1
    obtain ⟨b1, b2, b3⟩ := plainsL_ok ds h.2
    refine ⟨by simp only [tellBs, a1, b1, Bool.and_self], ?_, by simp only [PyData.canLayAll0, a3, b3, Bool.and_self]⟩
    simp only [PyData.shownAll, List.map_cons, List.sum_cons, List.length_cons, widesL]
    omega
end
def TellL (d : D) : Prop := SeqAt.shaped d = true ∧ longOk d
theorem tellL_of {d : D} (h : plainL d) (hw : wideL d ≤ 1000000) (hd : d.depth ≤ 60) : TellL d := by
  obtain ⟨h1, h2, h3⟩ := plainL_ok d h
  refine ⟨?_, h1, ?_, by omega⟩
  · show (d.canLay0 && decide (d.depth ≤ 64)) = true
    rw [h3, decide_eq_true (by omega)]
    rfl
  · have : d.shown.length ≤ 1000000 := by omega
    exact this
theorem alikeL {d : D} (h : TellL d) : m__law_alike [d, d] = some (.ret (.val (.bool true))) := by
  simp [m__law_alike, g__law_alike, runM, startE, Fr.eq_self h.1, dReprB, h.2]
theorem plainsL_of {ds : List D} (h : ∀ d ∈ ds, plainL d) : plainsL ds := by
  induction ds with
  | nil => trivial
  | cons d ds ih => exact ⟨h d List.mem_cons_self, ih fun x hx => h x (List.mem_cons_of_mem _ hx)⟩
theorem widesL_of {ds : List D} {k : Nat} (h : ∀ d ∈ ds, wideL d ≤ k) : widesL ds ≤ ds.length * (k + 2) := by
  induction ds with
  | nil => simp [widesL]
  | cons d ds ih =>
    have h1 := h d List.mem_cons_self
    have h2 := ih fun x hx => h x (List.mem_cons_of_mem _ hx)
    rw [widesL, List.length_cons, Nat.succ_mul]
    omega
/-- a fraction of less than 12000 bits -/
def Lq (q : Rat) : Prop := q.num.natAbs < 2 ^ 12000 ∧ q.den < 2 ^ 12000
theorem Bn.lq {B : Nat} {q : Rat} (h : Bn B q) (hB : B < 12000) : Lq q := ⟨Nat.lt_of_le_of_lt h.1 (Nat.pow_lt_pow_right (by decide) hB), Nat.lt_of_le_of_lt h.2 (Nat.pow_lt_pow_right (by decide) hB)⟩
theorem plainL_fr {q : Rat} (h : Lq q) : plainL (fr q) := by
  refine ⟨?_, ?_, trivial⟩
  · exact log2_lt (by decide) (up h.1 (by decide))
  · show ((q.den : Int)).natAbs.log2 < 12900
    rw [Int.natAbs_natCast]
    exact log2_lt (by decide) (up h.2 (by decide))
theorem wideL_fr (q : Rat) : wideL (fr q) = 25809 := rfl
theorem tellL_fr {q : Rat} (h : Lq q) : TellL (fr q) := tellL_of (plainL_fr h) (by rw [wideL_fr]; decide) (by rw [depth_fr]; decide)
theorem tellL_list {ds : List D} (h : ∀ d ∈ ds, plainL d ∧ wideL d ≤ 25809 ∧ d.depth ≤ 1) (hl : ds.length ≤ 30) : TellL (.list ds) := by
  have wd := widesL_of fun e he => (h e he).2.1
  have dp := depths_of fun e he => (h e he).2.2
  have : ds.length * (25809 + 2) ≤ 30 * (25809 + 2) := Nat.mul_le_mul_right _ hl
  exact tellL_of (plainsL_of fun d hd => (h d hd).1) (by show widesL ds + 3 ≤ 1000000; omega) (by simp only [PyData.depth]; omega)
theorem itemL {q : Rat} (h : Lq q) : plainL (fr q) ∧ wideL (fr q) ≤ 25809 ∧ (fr q).depth ≤ 1 := ⟨plainL_fr h, Nat.le_of_eq (wideL_fr q), Nat.le_of_eq (depth_fr q)⟩
/-! ### sizes of sums, products, quotients -/
theorem bn_neg {B : Nat} {q : Rat} (h : Bn B q) : Bn B (-q) := ⟨by rw [Rat.neg_num, Int.natAbs_neg]; exact h.1, by rw [Rat.neg_den]; exact h.2⟩
theorem bn_sub {B : Nat} {x y : Rat} (hx : Bn B x) (hy : Bn B y) : Bn (B * 2 + 2) (x - y) := by
  have h := bn_sum (B := B) (qs := [x, -y]) fun q hq => by
    simp only [List.mem_cons, List.not_mem_nil, or_false] at hq
    rcases hq with rfl | rfl
    · exact hx
    · exact bn_neg hy
  have e : sumQ [x, -y] = x - y := by simp only [sumQ]; grind
  rw [e] at h
  exact h
theorem bn_mul {B C : Nat} {x y : Rat} (hx : Bn B x) (hy : Bn C y) : Bn (B + C) (x * y) := by
  have h := hx.own.mul hy.own
  refine Bn.of_fx h (Nat.mul_pos x.den_pos y.den_pos) ?_ ?_
  · rw [Nat.pow_add]; exact Nat.mul_le_mul hx.2 hy.2
  · rw [Nat.pow_add]; exact Nat.le_refl _
theorem bn_divInt {B : Nat} {a b : Int} (h0 : b ≠ 0) (ha : a.natAbs ≤ 2 ^ B) (hb : b.natAbs ≤ 2 ^ B) : Bn B (Rat.divInt a b) := by
  rcases Int.lt_or_gt_of_ne h0 with h | h
  · have e : Rat.divInt a b = Rat.divInt (-a) ((b.natAbs : Nat) : Int) := by
      rw [← Rat.neg_divInt_neg]
      congr 1
      omega
    rw [e]
    exact Bn.of_fx (N := b.natAbs) (M := 2 ^ B) ⟨-a, by omega, rfl⟩ (by omega) hb (Nat.le_refl _)
  · have e : Rat.divInt a b = Rat.divInt a ((b.natAbs : Nat) : Int) := by
      congr 1
      omega
    rw [e]
    exact Bn.of_fx (N := b.natAbs) (M := 2 ^ B) ⟨a, ha, rfl⟩ (by omega) hb (Nat.le_refl _)
theorem bn_div {B : Nat} {x y : Rat} (hx : Bn B x) (hy : Bn B y) (h0 : y ≠ 0) : Bn (B + B) (x / y) := by
  have hn : y.num ≠ 0 := fun e => h0 (Rat.num_eq_zero.mp e)
  have hd : (x.den : Int) * y.num ≠ 0 := Int.mul_ne_zero (den0 x) hn
  rw [← over_val]
  refine bn_divInt hd ?_ ?_
  · rw [Int.natAbs_mul, Nat.pow_add, Int.natAbs_natCast]; exact Nat.mul_le_mul hx.1 hy.2
  · rw [Int.natAbs_mul, Nat.pow_add, Int.natAbs_natCast]; exact Nat.mul_le_mul hx.2 hy.1
theorem p_over {a b : Rat} (ha : Bq a) (hb : Bq b) (h0 : b ≠ 0) : m_over [fr a, fr b] = some (.ret (.val (fr (a / b)))) := by
  have hn : b.num ≠ 0 := fun e => h0 (Rat.num_eq_zero.mp e)
  have hd : (a.den : Int) * b.num ≠ 0 := Int.mul_ne_zero (den0 a) hn
  have hs : ((a.den : Int) * b.num).natAbs < 2 ^ 9000 := by
    rw [Int.natAbs_mul]
    exact up (m := 9000) (mul_lt (show (a.den : Int).natAbs < 2 ^ 4000 by rw [Int.natAbs_natCast]; exact ha.2) hb.1) (by decide)
  simp [m_over, g_over, runM, startE, mul_nd ha hb, mul_dn ha hb, m_reduced_eq hd hs, over_val]
theorem below_int {x y : Rat} : ((if y < x then 1 else 0 : Int) - (if x < y then 1 else 0 : Int)) = cmpI x y := rfl
theorem sums_right {x y : Rat} (hx : Bn 1000 x) (hy : Bn 1000 y) : m__law_are_sums_right [fr x, fr y] = some (.ret (.val (.bool true))) := by
  have bx := hx.bq (by decide)
  have by' := hy.bq (by decide)
  have q2 : ∀ q ∈ [x, y], Bn 1000 q := fun q hq => by
    simp only [List.mem_cons, List.not_mem_nil, or_false] at hq
    rcases hq with rfl | rfl <;> assumption
  have q3 : ∀ q ∈ [x, y, x], Bn 1000 q := fun q hq => by
    simp only [List.mem_cons, List.not_mem_nil, or_false] at hq
    rcases hq with rfl | rfl | rfl <;> assumption
  have l1 := m_minus_eq bx by'
  have l2 := m_by_eq bx by'
  have l3 := m_plus_b (B := 1000) (qs := [x, y]) (.inl rfl) q2 (by simp only [List.length_cons, List.length_nil]; decide)
  have l4 := m_plus_b (B := 1000) (qs := [x, y, x]) (.inl rfl) q3 (by simp only [List.length_cons, List.length_nil]; decide)
  have p1 := m_less_eq bx by'
  have p2 := m_times_eq bx by'
  have p3 := m_added_bn (B := 1000) (qs := [x, y]) (.inr rfl) q2 (by simp only [List.length_cons, List.length_nil]; decide) (by decide)
  have p4 := m_added_bn (B := 1000) (qs := [x, y, x]) (.inl rfl) q3 (by simp only [List.length_cons, List.length_nil]; decide) (by decide)
  simp only [List.map_cons, List.map_nil] at l3 l4 p3 p4
  have s3 := bn_sum q2
  have s4 := bn_sum q3
  have al := alikeL (tellL_list (ds := [fr (x - y), fr (x * y), fr (sumQ [x, y]), fr (sumQ [x, y, x])]) (fun d hd => by
    simp only [List.mem_cons, List.not_mem_nil, or_false] at hd
    rcases hd with rfl | rfl | rfl | rfl
    · exact itemL (Bn.lq (bn_sub hx hy) (by decide))
    · exact itemL (Bn.lq (bn_mul hx hy) (by decide))
    · exact itemL (Bn.lq s3 (by simp only [List.length_cons, List.length_nil]; decide))
    · exact itemL (Bn.lq s4 (by simp only [List.length_cons, List.length_nil]; decide))) (by simp))
  have c1 := m_compared_eq bx by'
  have c2 := m_below_eq by' bx
  have c3 := m_below_eq bx by'
  have ci : ((if y < x then 1 else 0 : Int) - (if x < y then 1 else 0 : Int)) = cmpI x y := rfl
  have cb : (cmpI x y).natAbs < 2 := by unfold cmpI; split <;> split <;> decide
  have al2 := alikeL (d := .int (cmpI x y)) (tellL_of (d := .int (cmpI x y)) (log2_lt (by decide) (up (n := (cmpI x y).natAbs) (k := 1) cb (by decide))) (by show 12901 ≤ 1000000; decide) (by simp [PyData.depth]))
  have n0 : dNe (.int y.num) (.int 0) = some (.val (.bool (!decide (y.num = 0)))) := ne_int _ _
  have x0 : (fr y : D) = .tuple [.int y.num, .int y.den] := rfl
  simp only [m__law_are_sums_right, g__law_are_sums_right, runM, List.length_cons, List.length_nil, if_true]
  have dn : dIx (fr y) (.int 0) = some (.val (.int y.num)) := fr0 y
  by_cases h0 : y = 0
  · have e0 : y.num = 0 := Rat.num_eq_zero.mpr h0
    rw [e0] at dn
    generalize fr (sumQ [x, y]) = f1 at *
    generalize fr (sumQ [x, y, x]) = f2 at *
    generalize fr (x - y) = f3 at *
    generalize fr (x * y) = f4 at *
    clear x0 n0
    generalize fr x = fx at *
    generalize fr y = fy at *
    simp [startE, lim_is, l1, l2, l3, l4, p1, p2, p3, p4, al, dn, c1, c2, c3, below_int, al2]
  · have hn : y.num ≠ 0 := fun e => h0 (Rat.num_eq_zero.mp e)
    have o1 := p_over bx by' h0
    have o2 := m_over_eq bx by' h0
    have al3 := alikeL (tellL_fr (Bn.lq (bn_div hx hy h0) (by decide)))
    generalize fr (sumQ [x, y]) = f1 at *
    generalize fr (sumQ [x, y, x]) = f2 at *
    generalize fr (x - y) = f3 at *
    generalize fr (x * y) = f4 at *
    generalize fr (x / y) = f5 at *
    clear x0 n0
    generalize fr x = fx at *
    generalize fr y = fy at *
    simp [startE, lim_is, l1, l2, l3, l4, p1, p2, p3, p4, al, dn, hn, o1, o2, al3, c1, c2, c3, below_int, al2]
/-! ### common dens -/
def lcmS (d : Nat) (q : Rat) : Nat := d * q.den / Nat.gcd d q.den
def lcms (qs : List Rat) (d : Nat) : Nat := qs.foldl lcmS d
theorem fdivN (a g : Nat) : (a : Int).fdiv (g : Int) = ((a / g : Nat) : Int) := by
  rw [Int.fdiv_eq_ediv_of_nonneg _ (Int.natCast_nonneg g)]
  rfl
theorem lcm_div {d : Nat} {q : Rat} (h0 : 0 < d) (hd : d < 2 ^ 1000) : dFdiv (.int ((d * q.den : Nat) : Int)) (.int ((Nat.gcd d q.den : Nat) : Int)) = some (.val (.int ((lcmS d q : Nat) : Int))) := by
  have g0 : 0 < Nat.gcd d q.den := Nat.gcd_pos_of_pos_right _ q.den_pos
  have g1 : Nat.gcd d q.den < 2 ^ 9000 := Nat.lt_of_le_of_lt (Nat.gcd_le_left _ h0) (up hd (by decide))
  rw [dFdiv_int, if_pos ⟨by omega, by rw [Int.natAbs_natCast]; exact log2_lt (by decide) g1⟩, fdivN]
  rfl
theorem lcm_step {d B : Nat} {q : Rat} (h0 : 0 < d) (hq : Bn 30 q) (hd : d ≤ 2 ^ B) : 0 < lcmS d q ∧ lcmS d q ≤ 2 ^ (B + 30) := by
  have g0 : 0 < Nat.gcd d q.den := Nat.gcd_pos_of_pos_right _ q.den_pos
  constructor
  · exact Nat.div_pos (Nat.le_trans (Nat.gcd_le_left _ h0) (Nat.le_mul_of_pos_right _ q.den_pos)) g0
  · refine Nat.le_trans (Nat.div_le_self _ _) ?_
    rw [Nat.pow_add]
    exact Nat.mul_le_mul hd hq.2
theorem mul_den {d B : Nat} {q : Rat} (hq : Bn 30 q) (hd : d ≤ 2 ^ B) (hB : B ≤ 1000) : mulOk (d : Int) (q.den : Int) := mulOk_of (by rw [Int.natAbs_natCast]; exact Nat.lt_of_le_of_lt hd (Nat.pow_lt_pow_right (by decide) (by omega))) (by rw [Int.natAbs_natCast]; exact Nat.lt_of_le_of_lt hq.2 (Nat.pow_lt_pow_right (by decide) (by decide)))
theorem p_den_loop : ∀ (qs : List Rat) (d B : Nat) (s0 s2 s3 : Sl), (∀ q ∈ qs, Bn 30 q) → 0 < d → d ≤ 2 ^ B → B + 30 * qs.length ≤ 900 →
    ∃ t2 t3, forL (pTup (pCons (pNm 2) (pCons (pNm 3) (pNil)))) (b1_common_den 0) (qs.map fr) [s0, .val (.int (d : Int)), s2, s3] = .ok .nx [s0, .val (.int (lcms qs d : Int)), t2, t3]
  | [], d, B, s0, s2, s3, _, _, _, _ => ⟨s2, s3, rfl⟩
  | q :: qs, d, B, s0, s2, s3, hq, h0, hd, hB => by
    rw [List.length_cons] at hB
    have h1 := hq q List.mem_cons_self
    obtain ⟨g1, g2⟩ := lcm_step h0 h1 hd
    obtain ⟨t2, t3, h⟩ := p_den_loop qs (lcmS d q) (B + 30) s0 (.val (.int q.num)) (.val (.int q.den)) (fun r hr => hq r (List.mem_cons_of_mem _ hr)) g1 g2 (by omega)
    refine ⟨t2, t3, ?_⟩
    rw [List.map_cons, forL_nx (e1 := [s0, .val (.int (d : Int)), .val (.int q.num), .val (.int q.den)]) (e2 := [s0, .val (.int (lcmS d q : Int)), .val (.int q.num), .val (.int q.den)]) (by simp [fr]) ?_, h]
    · rfl
    · have m1 := mul_den h1 hd (by omega)
      have m2 := m_common_eq d q.den
      have m3 := lcm_div (q := q) h0 (Nat.lt_of_le_of_lt hd (Nat.pow_lt_pow_right (by decide) (show B < 1000 by omega)))
      rw [Int.natCast_mul] at m3
      simp [b1_common_den, m1, m2, m3, -dFdiv_int]
theorem p_common_den {qs : List Rat} {d0 : D} (h0 : d0 = .list (qs.map fr) ∨ d0 = .tuple (qs.map fr)) (hq : ∀ q ∈ qs, Bn 30 q) (hl : qs.length ≤ 10) : m_common_den [d0] = some (.ret (.val (.int (lcms qs 1 : Int)))) := by
  obtain ⟨t2, t3, h⟩ := p_den_loop qs 1 0 (.val d0) .no .no hq (by decide) (by decide) (by omega)
  have h : forL (pTup (pCons (pNm 2) (pCons (pNm 3) (pNil)))) (b1_common_den 0) (qs.map fr) [.val d0, .val (.int 1), .no, .no] = _ := h
  generalize qs.map fr = q at *
  simp only [m_common_den, runM, g_common_den, List.length_cons, List.length_nil, if_true]
  rcases h0 with rfl | rfl <;> simp [startE, h]
theorem lcms_le : ∀ (qs : List Rat) (d B : Nat), (∀ q ∈ qs, Bn 30 q) → 0 < d → d ≤ 2 ^ B → lcms qs d ≤ 2 ^ (B + 30 * qs.length)
  | [], d, B, _, _, hd => hd
  | q :: qs, d, B, hq, h0, hd => by
    obtain ⟨g1, g2⟩ := lcm_step h0 (hq q List.mem_cons_self) hd
    have := lcms_le qs (lcmS d q) (B + 30) (fun r hr => hq r (List.mem_cons_of_mem _ hr)) g1 g2
    rw [List.length_cons, show B + 30 * (qs.length + 1) = B + 30 + 30 * qs.length by omega]
    exact this
/-- the law's own loop -/
abbrev lw (s0 : Sl) (ys : List D) (s2 s3 s4 s5 s6 s7 s8 s9 s10 s11 : Sl) : En := [s0, .own false ys, s2, s3, s4, s5, s6, s7, s8, s9, s10, s11, .no]
theorem l_den_loop (s0 : Sl) (ys : List D) (s2 s3 s4 s5 s6 s9 s10 s11 : Sl) : ∀ (qs : List Rat) (d B : Nat) (s8 : Sl), (∀ q ∈ qs, Bn 30 q) → 0 < d → d ≤ 2 ^ B → B + 30 * qs.length ≤ 900 →
    ∃ t8, forL (pNm 8) (b2_law 0) (qs.map fr) (lw s0 ys s2 s3 s4 s5 s6 (.val (.int (d : Int))) s8 s9 s10 s11) = .ok .nx (lw s0 ys s2 s3 s4 s5 s6 (.val (.int (lcms qs d : Int))) t8 s9 s10 s11)
  | [], d, B, s8, _, _, _, _ => ⟨s8, rfl⟩
  | q :: qs, d, B, s8, hq, h0, hd, hB => by
    rw [List.length_cons] at hB
    have h1 := hq q List.mem_cons_self
    obtain ⟨g1, g2⟩ := lcm_step h0 h1 hd
    obtain ⟨t8, h⟩ := l_den_loop s0 ys s2 s3 s4 s5 s6 s9 s10 s11 qs (lcmS d q) (B + 30) (.val (fr q)) (fun r hr => hq r (List.mem_cons_of_mem _ hr)) g1 g2 (by omega)
    refine ⟨t8, ?_⟩
    rw [List.map_cons, forL_nx (e1 := lw s0 ys s2 s3 s4 s5 s6 (.val (.int (d : Int))) (.val (fr q)) s9 s10 s11) (e2 := lw s0 ys s2 s3 s4 s5 s6 (.val (.int (lcmS d q : Int))) (.val (fr q)) s9 s10 s11) rfl ?_, h]
    · rfl
    · have m1 := mul_den h1 hd (by omega)
      have m2 := m_shared_eq (d : Int) (q.den : Int)
      rw [Int.natAbs_natCast, Int.natAbs_natCast] at m2
      have m3 := lcm_div (q := q) h0 (Nat.lt_of_le_of_lt hd (Nat.pow_lt_pow_right (by decide) (show B < 1000 by omega)))
      rw [Int.natCast_mul] at m3
      unfold lw
      simp [b2_law, m1, m2, m3, -dFdiv_int]
/-! ### the least, the greatest -/
theorem cut_tail1 (d : D) (rs : List D) : cutD (d :: rs) (some 1) none = rs := by
  unfold cutD
  rw [show HT.sIx (d :: rs).length 0 (some 1) = min 1 (d :: rs).length from HT.sIx_nat _ 0 1, HT.sIx_none]
  simp
section
variable {q : Rat} {rs : List Rat} (hq : Bq q) (hr : ∀ r ∈ rs, Bq r) {d0 : D} (h0 : d0 = .list (fr q :: rs.map fr) ∨ d0 = .tuple (fr q :: rs.map fr))
include hq hr h0
theorem p_least : m_least_of [d0] = some (.ret (.val (fr (minQ q rs)))) := by
  obtain ⟨t2, h⟩ := least_loop _ rfl rs q (.val d0) .no hq hr
  have hc := cut_tail1 (fr q) (rs.map fr)
  simp only [m_least_of, runM, g_least_of, List.length_cons, List.length_nil, if_true]
  rcases h0 with rfl | rfl <;> simp [startE, hc, h]
theorem p_greatest : m_greatest_of [d0] = some (.ret (.val (fr (maxQ q rs)))) := by
  obtain ⟨t2, h⟩ := greatest_loop _ rfl rs q (.val d0) .no hq hr
  have hc := cut_tail1 (fr q) (rs.map fr)
  simp only [m_greatest_of, runM, g_greatest_of, List.length_cons, List.length_nil, if_true]
  rcases h0 with rfl | rfl <;> simp [startE, hc, h]
end
theorem l_low_loop (s0 : Sl) : ∀ (rs : List Rat) (q : Rat) (s2 : Sl), Bq q → (∀ r ∈ rs, Bq r) → ∃ t2, forL (pNm 2) (b1__law_lowest 0) (rs.map fr) [s0, .val (fr q), s2] = .ok .nx [s0, .val (fr (minQ q rs)), t2]
  | [], q, s2, _, _ => ⟨s2, rfl⟩
  | r :: rs, q, s2, hq, hr => by
    have h1 := hr r List.mem_cons_self
    have hm : Bq (if r < q then r else q) := by split <;> assumption
    obtain ⟨t2, h⟩ := l_low_loop s0 rs (if r < q then r else q) (.val (fr r)) hm fun x hx => hr x (List.mem_cons_of_mem _ hx)
    refine ⟨t2, ?_⟩
    rw [List.map_cons, forL_nx (e1 := [s0, .val (fr q), .val (fr r)]) (e2 := [s0, .val (fr (if r < q then r else q)), .val (fr r)]) rfl ?_, h, minQ]
    have hc := m_below_eq h1 hq
    by_cases hlt : r < q
    · simp [b1__law_lowest, hc, hlt]
    · simp [b1__law_lowest, hc, hlt]
def hiB : MS := sSet 1 (vIf (vB (vCall m__law_below (vCons (vVar 1) (vCons (vVar 2) (vNil))))) (vVar 2) (vVar 1))
theorem l_high_loop (s0 : Sl) : ∀ (rs : List Rat) (q : Rat) (s2 : Sl), Bq q → (∀ r ∈ rs, Bq r) → ∃ t2, forL (pNm 2) (hiB) (rs.map fr) [s0, .val (fr q), s2] = .ok .nx [s0, .val (fr (maxQ q rs)), t2]
  | [], q, s2, _, _ => ⟨s2, rfl⟩
  | r :: rs, q, s2, hq, hr => by
    have h1 := hr r List.mem_cons_self
    have hm : Bq (if q < r then r else q) := by split <;> assumption
    obtain ⟨t2, h⟩ := l_high_loop s0 rs (if q < r then r else q) (.val (fr r)) hm fun x hx => hr x (List.mem_cons_of_mem _ hx)
    refine ⟨t2, ?_⟩
    rw [List.map_cons, forL_nx (e1 := [s0, .val (fr q), .val (fr r)]) (e2 := [s0, .val (fr (if q < r then r else q)), .val (fr r)]) rfl ?_, h, maxQ]
    have hc := m_below_eq hq h1
    by_cases hlt : q < r
    · simp [hiB, hc, hlt]
    · simp [hiB, hc, hlt]
theorem l_lowest {q : Rat} {rs : List Rat} (hq : Bq q) (hr : ∀ r ∈ rs, Bq r) : m__law_lowest [.list (fr q :: rs.map fr)] = some (.ret (.val (fr (minQ q rs)))) := by
  obtain ⟨t2, h⟩ := l_low_loop (.val (.list (fr q :: rs.map fr))) (q :: rs) q .no hq fun r h => (List.mem_cons.mp h).elim (fun e => e ▸ hq) (hr r)
  have e : minQ q (q :: rs) = minQ q rs := by rw [minQ]; simp
  rw [e, List.map_cons] at h
  generalize rs.map fr = rd at *
  simp only [m__law_lowest, runM, g__law_lowest, List.length_cons, List.length_nil, if_true]
  simp [startE, h]
theorem l_highest {q : Rat} {rs : List Rat} (hq : Bq q) (hr : ∀ r ∈ rs, Bq r) : m__law_highest [.list (fr q :: rs.map fr)] = some (.ret (.val (fr (maxQ q rs)))) := by
  obtain ⟨t2, h⟩ := l_high_loop (.val (.list (fr q :: rs.map fr))) (q :: rs) q .no hq fun r h => (List.mem_cons.mp h).elim (fun e => e ▸ hq) (hr r)
  have e : maxQ q (q :: rs) = maxQ q rs := by rw [maxQ]; simp
  rw [e, List.map_cons] at h
  unfold hiB at h
  generalize rs.map fr = rd at *
  simp only [m__law_highest, runM, g__law_highest, List.length_cons, List.length_nil, if_true]
  simp [startE, h]
/-! ### drawn fractions -/
theorem oneI {xs : List D} (hb : BagOk xs) {ns : List Int} (h0 : ns ≠ []) (hl : ns.length < 1000) : ∃ (i : Int) (ys : List D), m__law_one xs [.list (ns.map PyData.int)] = some (.ret (.val (.int i)), ys) ∧ i ∈ ns ∧ BagOk ys := by
  obtain ⟨d, ys, e, hd, B⟩ := one_list hb (ds := ns.map PyData.int) (by simpa using h0) (by rw [List.length_map]; omega)
  obtain ⟨i, hi, rfl⟩ := List.mem_map.mp hd
  exact ⟨i, ys, e, hi, B⟩
theorem part_ok {xs : List D} (hb : BagOk xs) : ∃ (q : Rat) (ys : List D), m__law_part xs [] = some (.ret (.val (fr q)), ys) ∧ BagOk ys ∧ Bn 30 q := by
  obtain ⟨v, y1, e1, v0, v1, B1⟩ := take_ok hb (many := 1000) (by decide) (by decide)
  obtain ⟨a, y2, e2, ha, B2⟩ := oneI B1 (ns := [0, 1, -1, 2, 6, -12, 999999999, -999999998, v - 500]) (by simp) (by simp)
  obtain ⟨w, y3, e3, w0, w1, B3⟩ := take_ok B2 (many := 1000) (by decide) (by decide)
  obtain ⟨b, y4, e4, hb, B4⟩ := oneI B3 (ns := [1, 2, 3, 4, 6, 12, 999999999, 1 + w]) (by simp) (by simp)
  have ha : a.natAbs ≤ 999999999 := by
    simp only [List.mem_cons, List.not_mem_nil, or_false] at ha
    omega
  have hb : b ≠ 0 ∧ b.natAbs ≤ 999999999 := by
    simp only [List.mem_cons,
                                                                                                                  List.not_mem_nil, or_false] at hb
    omega
  have p30 : 999999999 ≤ 2 ^ 30 := by decide
  have r := m_ratio_eq (a := a) hb.1 (Nat.lt_of_le_of_lt hb.2 (up (n := 999999999) (k := 30) (by decide) (by decide)))
  refine ⟨Rat.divInt a b, y4, ?_, B4, bn_divInt hb.1 (Nat.le_trans ha p30) (Nat.le_trans hb.2 p30)⟩
  simp only [List.map_cons, List.map_nil] at e2 e4
  simp only [m__law_part, runB, g__law_part, List.length_cons, List.length_nil, if_true]
  simp [startE, lim_is, e1, e2, e3, e4, r]
/-! ### a turn -/
theorem minQ_mem : ∀ (rs : List Rat) (q : Rat), minQ q rs = q ∨ minQ q rs ∈ rs
  | [], q => .inl rfl
  | r :: rs, q => by
    rw [minQ]
    rcases minQ_mem rs (if r < q then r else q) with e | e
    · rw [e]
      by_cases h : r < q
      · rw [if_pos h]; exact .inr List.mem_cons_self
      · rw [if_neg h];
                                                                                                                      exact .inl rfl
    · exact .inr (List.mem_cons_of_mem _ e)
theorem rep2 (d : D) : dMul (.list [d]) (.int 2) = some (.own false [d, d]) := by
  show (if (2 : Int).natAbs < 1000000 ∧ ([d] : List D).length * (2 : Int).toNat ≤ LIM then some (Sl.own false (List.replicate (2 : Int).toNat [d]).flatten) else none) = _
  rw [if_pos ⟨by decide, by rw [lim_is]; show 1 * 2 ≤ 1000000; decide⟩]
  rfl
section
variable (s0 s2 s3 s4 s5 s6 s7 s8 s9 s10 s11 : Sl) {ys : List D}
theorem part1 (B : BagOk ys) : ∃ (ps : List Rat) (y1 : List D) , BagOk y1 ∧ (∀ q ∈ ps, Bn 30 q) ∧ ps.length ≤ 10 ∧ ∃ e1, s1_law 0 (lw s0 ys s2 s3 s4 s5 s6 s7 s8 s9 s10 s11) = .ok .nx e1 ∧ s2_law 0 e1 = .ok .nx (lw s0 y1 s2 s3 s4 (.own false (ps.map fr)) s6 s7 s8 s9 s10 s11) := by
  obtain ⟨k, y1, e1, k0, k1, B1⟩ := take_ok B (many := 10) (by decide) (by decide)
  obtain ⟨k, rfl⟩ : ∃ n : Nat, k = (n : Int) := ⟨k.toNat, by omega⟩
  obtain ⟨zs, e', w1, w2, w3, y2, rfl, B2⟩ := lcL_draw (pat := pNm 12) (el := e1_law 0) (vs := [12]) (fun k : Nat => PyData.int (k : Int)) fr (fun _ q => Bn 30 q)
    (fun e => ∃ ys, e = lw s0 ys s2 s3 s4 s5 s6 s7 s8 s9 s10 s11 ∧ BagOk ys) (List.range k) (fun i hi e ⟨ys, he, B⟩ => by
      subst he
      obtain ⟨q, z1, g, C, hq⟩ := part_ok B
      exact ⟨s0, [.own false ys, s2, s3, s4, s5, s6, s7, s8, s9, s10, s11, .val (.int i)], q, [s0, .own false z1, s2, s3, s4, s5, s6, s7, s8, s9, s10, s11, .val (.int i)], rfl, by simp [e1_law, g], hq, z1, rfl, C⟩) _ ⟨y1, rfl, B1⟩
  rw [← rng_map] at w1
  have em : zs.map (fun z => fr z.2) = (zs.map (·.2)).map fr := by rw [List.map_map]; rfl
  rw [em] at w1
  have zl : (zs.map (·.2)).length = k := by
    have := congrArg List.length w2
    rw [List.length_map, List.length_range] at this
    rw [List.length_map]; exact this
  have zq : ∀ q ∈ zs.map (·.2), Bn 30 q := fun q hq => by
    obtain ⟨z, hz, rfl⟩ := List.mem_map.mp hq
    exact w3 z hz
  generalize zs.map (·.2) = qs at *
  obtain ⟨v, y3, e3, v0, v1, B3⟩ := take_ok B2 (many := 2) (by decide) (by decide)
  obtain ⟨v, rfl⟩ : ∃ n : Nat, v = (n : Int) := ⟨v.toNat, by omega⟩
  have ct : cutD (qs.map fr) none (some (v : Int)) = (qs.take v).map fr := by
    rw [List.map_take]
    unfold cutD
    rw [HT.sIx_none, show HT.sIx (qs.map fr).length (qs.map fr).length (some (v : Int)) = min v (qs.map fr).length from HT.sIx_nat _ _ v]
    rw [List.drop_zero, Nat.sub_zero, List.take_eq_take_iff]
    omega
  have tl : (qs.take v).length ≤ 1 := by rw [List.length_take]; omega
  have rng : ∀ e, rngR [.int (k : Int)] e = .ok (rngD 0 k) e := rng_nat (by omega)
  have hrn : (rngD 0 k).length ≤ 1000000 := by rw [rng_len]; omega
  have hl : (qs.map fr).length + ((qs.take v).map fr).length ≤ 1000000 := by rw [List.length_map, List.length_map]; omega
  refine ⟨qs ++ qs.take v, y3, B3, fun q hq => ?_, by rw [List.length_append]; omega, lw s0 y2 s2 s3 s4 (.own false (qs.map fr)) s6 s7 s8 s9 s10 s11, ?_, ?_⟩
  · rcases List.mem_append.mp hq with
                                                                                                                  hq | hq
    · exact zq q hq
    · exact zq q (List.mem_of_mem_take hq)
  · unfold lw at *
    generalize qs.map fr = q at *
    simp [s1_law, e1, rng, w1, noOwn, wipeE, backE, lim_is, hrn]
  · unfold lw
    rw [List.map_append]
    generalize qs.map fr = q at *
    generalize (qs.take v).map fr = q2 at *
    simp [s2_law, e3, ct, lim_is, hl]
section
variable {ps : List Rat} (hp : ∀ q ∈ ps, Bn 30 q) (hl : ps.length ≤ 10)
include hp hl
theorem tellP : TellL (.list (ps.map fr)) := tellL_list (fun d hd => by
  obtain ⟨q, hq, rfl⟩ :=
                                                                                                                List.mem_map.mp hd
  exact itemL (Bn.lq (hp q hq) (by decide))) (by rw [List.length_map]; omega)
theorem sumP : Bn 400 (sumQ ps) := (bn_sum hp).mono (by omega)
theorem addP {d0 : D} (h0 : d0 = .list (ps.map fr) ∨ d0 = .tuple (ps.map fr)) : m_added [d0] = some (.ret (.val (fr (sumQ ps)))) := m_added_bn (B := 30) h0 hp (by omega) (by decide)
theorem plusP {d0 : D} (h0 : d0 = .list (ps.map fr) ∨ d0 = .tuple (ps.map fr)) : m__law_plus [d0] = some (.ret (.val (fr (sumQ ps)))) := m_plus_b (B := 30) h0 hp (by omega)
theorem part2 : ∃ e1 t8, s3_law 0 (lw s0 ys s2 s3 s4 (.own false (ps.map fr)) s6 s7 s8 s9 s10 s11) = .ok .nx e1 ∧ sFor (vItems (vVar 5)) (pNm 8) (b2_law 0) e1 = .ok .nx (lw s0 ys s2 s3 s4 (.val (.list (ps.map fr))) (.val (.str (PyData.list (ps.map fr)).shown)) (.val (.int (lcms ps 1 : Int))) t8 s9 s10 s11) := by
  obtain ⟨t8, w⟩ := l_den_loop s0 ys s2 s3 s4 (.val (.list (ps.map fr))) (.val (.str (PyData.list (ps.map fr)).shown)) s9 s10 s11 ps 1 0 s8 hp (by decide) (by decide) (by omega)
  have rp : dReprB [.list (ps.map fr)] = some (.val (.str (PyData.list (ps.map fr)).shown)) := if_pos (tellP hp hl).2
  refine ⟨lw s0 ys s2 s3 s4 (.val (.list (ps.map fr))) (.val (.str (PyData.list (ps.map fr)).shown)) (.val (.int 1)) s8 s9 s10 s11, t8, ?_, ?_⟩
  · unfold lw
    generalize (PyData.list (ps.map fr)).shown = sh at *
    generalize ps.map fr = q at *
    simp [s3_law, rp]
  · have w : forL (pNm 8) (b2_law 0) (ps.map fr) (lw s0 ys s2 s3 s4 (.val (.list (ps.map fr))) (.val (.str (PyData.list (ps.map fr)).shown)) (.val (.int 1)) s8 s9 s10 s11) = _ := w
    unfold lw at *
    generalize (PyData.list (ps.map fr)).shown = sh at *
    generalize ps.map fr = q at *
    simp [w]
theorem lcm_tell : plainL (.int (lcms ps 1 : Int)) ∧ wideL (.int (lcms ps 1 : Int)) ≤ 25809 ∧ (PyData.int (lcms ps 1 : Int)).depth ≤ 1 := by
  have h := lcms_le ps 1 0 hp (by decide) (by decide)
  refine ⟨?_, by show 12901 ≤ 25809; decide, by simp [PyData.depth]⟩
  show ((lcms ps 1 : Int)).natAbs.log2 < 12900
  rw [Int.natAbs_natCast]
  exact log2_lt (by decide) (Nat.lt_of_le_of_lt h (Nat.pow_lt_pow_right (by decide) (by omega)))
theorem part3 : ∃ t9, (s4_law 0 (lw s0 ys s2 s3 s4 (.val (.list (ps.map fr))) s6 (.val (.int (lcms ps 1 : Int))) s8 s9 s10 s11) = .ok .nx (lw s0 ys s2 s3 s4 (.val (.list (ps.map fr))) s6 (.val (.int (lcms ps 1 : Int))) s8 s9 s10 s11)) ∧
    (s5_law 0 (lw s0 ys s2 s3 s4 (.val (.list (ps.map fr))) s6 (.val (.int (lcms ps 1 : Int))) s8 s9 s10 s11) = .ok .nx (lw s0 ys s2 s3 s4 (.val (.list (ps.map fr))) s6 (.val (.int (lcms ps 1 : Int))) s8 s9 s10 s11)) ∧
    (s6_law 0 (lw s0 ys s2 s3 s4 (.val (.list (ps.map fr))) s6 (.val (.int (lcms ps 1 : Int))) s8 s9 s10 s11) = .ok .nx (lw s0 ys s2 s3 s4 (.val (.list (ps.map fr))) s6 (.val (.int (lcms ps 1 : Int))) s8 t9 s10 s11)) := by
  have a1 := addP hp hl (.inl rfl)
  have a2 := addP hp hl (.inr rfl)
  have a3 := plusP hp hl (.inl rfl)
  have d1 := p_common_den (.inl rfl) hp hl
  have d2 := p_common_den (.inr rfl) hp hl
  have lt := lcm_tell hp hl
  have al := alikeL (tellL_list (ds := [fr (sumQ ps), fr (sumQ ps), .int (lcms ps 1 : Int)]) (fun d hd => by
    simp only [List.mem_cons, List.not_mem_nil, or_false] at hd
    rcases hd with rfl | rfl | rfl
    · exact itemL (Bn.lq (sumP hp hl) (by decide))
    · exact itemL (Bn.lq (sumP hp hl) (by decide))
    · exact lt) (by simp))
  have r2 := rep2 (fr (sumQ ps))
  have nn := ne_nil_any (ps.map fr)
  have bq : ∀ q ∈ ps, Bq q := fun q hq => (hp q hq).bq (by decide)
  suffices h6 : ∃ t9, s6_law 0 (lw s0 ys s2 s3 s4 (.val (.list (ps.map fr))) s6 (.val (.int (lcms ps 1 : Int))) s8 s9 s10 s11) = .ok .nx (lw s0 ys s2 s3 s4 (.val (.list (ps.map fr))) s6 (.val (.int (lcms ps 1 : Int))) s8 t9 s10 s11) by
    obtain ⟨t9, h6⟩ := h6
    refine ⟨t9, ?_, ?_, h6⟩
    · unfold lw
      generalize fr (sumQ ps) = f at *
      generalize ps.map fr = q at *
      simp [s4_law, a1, a2, a3, d1, r2, al, lim_is]
    · unfold lw
      generalize ps.map fr = q at *
      simp [s5_law, d2]
  cases ps with
  | nil =>
    refine ⟨s9, ?_⟩
    unfold lw
    simp at nn
    simp [s6_law, nn]
  | cons q rs =>
    have bq1 := bq q List.mem_cons_self
    have bq2 : ∀ r ∈ rs, Bq r := fun r hr => bq r (List.mem_cons_of_mem _ hr)
    have m1 := p_least bq1 bq2 (.inl rfl)
    have m2 := p_least bq1 bq2 (.inr rfl)
    have m3 := p_greatest bq1 bq2 (.inl rfl)
    have m4 := p_greatest bq1 bq2 (.inr rfl)
    have m5 := l_lowest bq1 bq2
    have m6 := l_highest bq1 bq2
    have r3 := rep2 (fr (minQ q rs))
    have r4 := rep2 (fr (maxQ q rs))
    have i1 : Lq (minQ q rs) := by
      rcases minQ_mem rs q with e | e
      · rw [e]; exact Bn.lq (hp q List.mem_cons_self) (by decide)
      · exact Bn.lq (hp _ (List.mem_cons_of_mem _ e)) (by decide)
    have i2 : Lq (maxQ q rs) := by
      rcases maxQ_mem rs q with e | e
      · rw [e]; exact Bn.lq (hp q List.mem_cons_self) (by decide)
      · exact Bn.lq (hp _ (List.mem_cons_of_mem _ e)) (by decide)
    have al2 := alikeL (tellL_list (ds := [fr (minQ q rs), fr (minQ q rs), fr (maxQ q rs), fr (maxQ q rs)]) (fun d hd => by
      simp only [List.mem_cons, List.not_mem_nil, or_false] at hd
      rcases hd with rfl | rfl | rfl | rfl
      · exact itemL i1
      · exact itemL i1
      · exact itemL i2
      · exact itemL i2) (by simp))
    refine ⟨.val (.list [fr (minQ q rs), fr (minQ q rs), fr (maxQ q rs), fr (maxQ q rs)]), ?_⟩
    unfold lw
    rw [List.map_cons] at *
    simp only [List.isEmpty_cons, Bool.not_false] at nn
    generalize fr (minQ q rs) = f1 at *
    generalize fr (maxQ q rs) = f2 at *
    generalize fr q :: rs.map fr = qd at *
    simp [s6_law, nn, m1, m2, m3, m4, m5, m6, r3, r4, lim_is, al2]
end
theorem turn_loop (ps : List (Rat × Rat)) (hp : ∀ p ∈ ps, Bn 1000 p.1 ∧ Bn 1000 p.2) : ∃ t2 t3, forL (pTup (pCons (pNm 2) (pCons (pNm 3) (pNil)))) (b3_law 0) (ps.map sp) (lw s0 ys s2 s3 s4 s5 s6 s7 s8 s9 s10 s11) = .ok .nx (lw s0 ys t2 t3 s4 s5 s6 s7 s8 s9 s10 s11) := by
  obtain ⟨e', w, t2, t3, rfl, _⟩ := for_each (pat := pTup (pCons (pNm 2) (pCons (pNm 3) (pNil)))) (b := b3_law 0) sp (fun ps e => ∃ s2 s3, e = lw s0 ys s2 s3 s4 s5 s6 s7 s8 s9 s10 s11 ∧ ∀ p ∈ ps, Bn 1000 p.1 ∧ Bn 1000 p.2) (fun p ps e ⟨a2, a3, he, g⟩ => by
    subst he
    obtain ⟨g1, g2⟩ := g p List.mem_cons_self
    have h := sums_right g1 g2
    refine ⟨lw s0 ys (.val (fr p.1)) (.val (fr p.2)) s4 s5 s6 s7 s8 s9 s10 s11, lw s0 ys (.val (fr p.1)) (.val (fr p.2)) s4 s5 s6 s7 s8 s9 s10 s11, rfl, ?_, _, _, rfl, fun x hx => g x (List.mem_cons_of_mem _ hx)⟩
    unfold lw
    simp [b3_law, h]) ps _ ⟨s2, s3, rfl, hp⟩
  exact ⟨t2, t3, w⟩
end
def TuI (_ : List D) (e : En) : Prop := ∃ (ys : List D) (s0 s2 s3 s4 s5 s6 s7 s8 s9 s10 s11 : Sl), e = lw s0 ys s2 s3 s4 s5 s6 s7 s8 s9 s10 s11 ∧ BagOk ys
theorem turn_ok {ys : List D} (B : BagOk ys) (s0 s2 s3 s4 s5 s6 s7 s8 s9 s10 s11 : Sl) : ∃ e2, b4_law 0 (lw s0 ys s2 s3 s4 s5 s6 s7 s8 s9 s10 s11) = .ok .nx e2 ∧ TuI [] e2 := by
  obtain ⟨ps, y1, B1, hp, hl, x1, g1, g2⟩ := part1 s0 s2 s3 s4 s5 s6 s7 s8 s9 s10 s11 B
  obtain ⟨x2, t8, g3, g4⟩ := part2 (ys := y1) s0 s2 s3 s4 s6 s7 s8 s9 s10 s11 hp hl
  obtain ⟨t9, g5, g6, g7⟩ := part3 (ys := y1) s0 s2 s3 s4 (.val (.str (PyData.list (ps.map fr)).shown)) t8 s9 s10 s11 hp hl
  obtain ⟨x, y2, e2, B2, hx⟩ := part_ok B1
  obtain ⟨y, y3, e3, B3, hy⟩ := part_ok B2
  have bS := sumP hp hl
  have bP : Bn 60 (x * y) := bn_mul hx hy
  have bW : Bn 1000 (sumQ ps * (x * y)) := (bn_mul bS bP).mono (by decide)
  have q1 := m_times_eq (hx.bq (by decide)) (hy.bq (by decide))
  have q2 := m_times_eq (bS.bq (by decide)) (bP.bq (by decide))
  have q3 := m_by_eq (hx.bq (by decide)) (hy.bq (by decide))
  have q4 := m_by_eq (bS.bq (by decide)) (bP.bq (by decide))
  have a1 := addP hp hl (.inl rfl)
  have a2 := plusP hp hl (.inl rfl)
  have alW := alikeL (tellL_fr (Bn.lq bW (by decide)))
  obtain ⟨u1, y4, e4, B4, hu1⟩ := part_ok B3
  obtain ⟨u2, y5, e5, B5, hu2⟩ := part_ok B4
  obtain ⟨u3, y6, e6, B6, hu3⟩ := part_ok B5
  have m1000 : ∀ {q : Rat}, Bn 30 q → Bn 1000 q := fun h => h.mono (by decide)
  have b0 : Bn 1000 (0 : Rat) := ⟨by decide, by decide +kernel⟩
  obtain ⟨t2, t3, w⟩ := turn_loop (ys := y6) s0 (.val (fr x)) (.val (fr y)) s4 (.val (.list (ps.map fr))) (.val (.str (PyData.list (ps.map fr)).shown)) (.val (.int (lcms ps 1 : Int))) t8 t9 (.val (fr (sumQ ps * (x * y)))) s11 [(u1, u2), (sumQ ps * (x * y), u3), (sumQ ps * (x * y), sumQ ps * (x * y)), (0, sumQ ps * (x * y))] (fun p hp => by
    simp only [List.mem_cons, List.not_mem_nil, or_false] at hp
    rcases hp with rfl | rfl | rfl | rfl
    · exact ⟨m1000 hu1, m1000 hu2⟩
    · exact ⟨bW, m1000 hu3⟩
    · exact ⟨bW, bW⟩
    · exact ⟨b0, bW⟩)
  obtain ⟨v, y7, e7, v0, v1, B7⟩ := take_ok B6 (many := 2000) (by decide) (by decide)
  obtain ⟨d, y8, e8, hd, B8⟩ := oneI B7 (ns := [1, -1, 6, -6, 1000, -35, 1000000000000000000000000000000]) (by simp) (by simp)
  have hd : d ≠ 0 ∧ d.natAbs ≤ 1000000000000000000000000000000 := by
    simp only [List.mem_cons, List.not_mem_nil, or_false] at hd
    omega
  have p100 : 1000000000000000000000000000000 ≤ 2 ^ 100 := by decide
  have dl : d.natAbs < 2 ^ 9000 := Nat.lt_of_le_of_lt hd.2 (up (n := 1000000000000000000000000000000) (k := 100) (by decide) (by decide))
  have z1 := m_reduced_eq (a := (v - 1000) * 6) hd.1 dl
  have z2 := m_ratio_eq (a := (v - 1000) * 6) hd.1 dl
  have vb : ((v - 1000) * 6).natAbs ≤ 2 ^ 100 := Nat.le_trans (m := 6000) (by omega) (by decide)
  have alZ := alikeL (tellL_fr (Bn.lq (bn_divInt hd.1 vb (Nat.le_trans hd.2 p100)) (by decide)))
  have mk : mulOk (v - 1000) 6 := .inr (.inr ⟨by decide, by decide⟩)
  have rp : dReprB [.list (ps.map fr)] = some (.val (.str (PyData.list (ps.map fr)).shown)) := if_pos (tellP hp hl).2
  refine ⟨lw s0 y8 t2 t3 s4 (.val (.list (ps.map fr))) (.val (.str (PyData.list (ps.map fr)).shown)) (.val (.int d)) t8 t9 (.val (fr (sumQ ps * (x * y)))) (.val (.int (v - 1000))), ?_, y8, _, _, _, _, _, _, _, _, _, _, _, rfl, B8⟩
  have f0 : PyData.tuple [.int 0, .int 1] = fr 0 := rfl
  have h7 : s7_law 0 (lw s0 y1 s2 s3 s4 (.val (.list (ps.map fr))) (.val (.str (PyData.list (ps.map fr)).shown)) (.val (.int (lcms ps 1 : Int))) t8 t9 s10 s11) = .ok .nx (lw s0 y3 (.val (fr x)) (.val (fr y)) s4 (.val (.list (ps.map fr))) (.val (.str (PyData.list (ps.map fr)).shown)) (.val (.int (lcms ps 1 : Int))) t8 t9 s10 s11) := by
    unfold lw
    simp [s7_law, e2, e3]
  have h8 : s8_law 0 (lw s0 y3 (.val (fr x)) (.val (fr y)) s4 (.val (.list (ps.map fr))) (.val (.str (PyData.list (ps.map fr)).shown)) (.val (.int (lcms ps 1 : Int))) t8 t9 s10 s11) = .ok .nx (lw s0 y3 (.val (fr x)) (.val (fr y)) s4 (.val (.list (ps.map fr))) (.val (.str (PyData.list (ps.map fr)).shown)) (.val (.int (lcms ps 1 : Int))) t8 t9 (.val (fr (sumQ ps * (x * y)))) s11) := by
    unfold lw
    simp [s8_law, a1, q1, q2]
  have h9 : s9_law 0 (lw s0 y3 (.val (fr x)) (.val (fr y)) s4 (.val (.list (ps.map fr))) (.val (.str (PyData.list (ps.map fr)).shown)) (.val (.int (lcms ps 1 : Int))) t8 t9 (.val (fr (sumQ ps * (x * y)))) s11) = .ok .nx (lw s0 y3 (.val (fr x)) (.val (fr y)) s4 (.val (.list (ps.map fr))) (.val (.str (PyData.list (ps.map fr)).shown)) (.val (.int (lcms ps 1 : Int))) t8 t9 (.val (fr (sumQ ps * (x * y)))) s11) := by
    unfold lw
    simp [s9_law, a2, q3, q4, alW]
  have h10 : s10_law 0 (lw s0 y3 (.val (fr x)) (.val (fr y)) s4 (.val (.list (ps.map fr))) (.val (.str (PyData.list (ps.map fr)).shown)) (.val (.int (lcms ps 1 : Int))) t8 t9 (.val (fr (sumQ ps * (x * y)))) s11) = .ok .nx (lw s0 y6 t2 t3 s4 (.val (.list (ps.map fr))) (.val (.str (PyData.list (ps.map fr)).shown)) (.val (.int (lcms ps 1 : Int))) t8 t9 (.val (fr (sumQ ps * (x * y)))) s11) := by
    simp only [List.map_cons, List.map_nil, sp] at w
    unfold lw at *
    generalize sumQ ps * (x * y) = W at *
    simp [s10_law, e4, e5, e6, lim_is, f0, w]
  have h11 : s11_law 0 (lw s0 y6 t2 t3 s4 (.val (.list (ps.map fr))) (.val (.str (PyData.list (ps.map fr)).shown)) (.val (.int (lcms ps 1 : Int))) t8 t9 (.val (fr (sumQ ps * (x * y)))) s11) = .ok .nx (lw s0 y8 t2 t3 s4 (.val (.list (ps.map fr))) (.val (.str (PyData.list (ps.map fr)).shown)) (.val (.int d)) t8 t9 (.val (fr (sumQ ps * (x * y)))) (.val (.int (v - 1000)))) := by
    simp only [List.map_cons, List.map_nil] at e8
    unfold lw
    simp [s11_law, e7, lim_is, dPow, e8]
  have h12 : s12_law 0 (lw s0 y8 t2 t3 s4 (.val (.list (ps.map fr))) (.val (.str (PyData.list (ps.map fr)).shown)) (.val (.int d)) t8 t9 (.val (fr (sumQ ps * (x * y)))) (.val (.int (v - 1000)))) = .ok .nx (lw s0 y8 t2 t3 s4 (.val (.list (ps.map fr))) (.val (.str (PyData.list (ps.map fr)).shown)) (.val (.int d)) t8 t9 (.val (fr (sumQ ps * (x * y)))) (.val (.int (v - 1000)))) := by
    unfold lw
    generalize (PyData.list (ps.map fr)).shown = sh at *
    simp [s12_law, mk, z1, z2, alZ, rp]
  unfold lw at *
  simp only [b4_law, sSeq, g1, g2, g3, g4, g5, g6, g7, h7, h8, h9, h10, h11, h12, sThen]
  done
/-! ### neighbours -/
def fb : Nat → Nat × Nat → Nat × Nat
  | 0, p => p
  | k + 1, p => fb k (p.2, p.1 + p.2)
theorem fb_ok : ∀ (k : Nat) (p : Nat × Nat), 0 < p.1 → 0 < p.2 → Nat.gcd p.1 p.2 = 1 → 0 < (fb k p).1 ∧ 0 < (fb k p).2 ∧ Nat.gcd (fb k p).1 (fb k p).2 = 1
  | 0, p, h1, h2, h3 => ⟨h1, h2, h3⟩
  | k + 1, p, h1, h2, h3 => fb_ok k (p.2, p.1 + p.2) h2 (by show 0 < p.1 + p.2; omega) (by
    show Nat.gcd p.2 (p.1 + p.2) = 1
    rw [Nat.gcd_add_self_right, Nat.gcd_comm]
    exact h3)
theorem fb_small : ∀ k, k < 5 → (fb (1380 + k) (1, 1)).1 ≤ 2 ^ 990 ∧ (fb (1380 + k) (1, 1)).2 ≤ 2 ^ 990
  | 0, _ => by decide +kernel
  | 1, _ => by decide +kernel
  | 2, _ => by decide +kernel
  | 3, _ => by decide +kernel
  | 4, _ => by decide +kernel
  | k + 5, h => by omega
theorem fb_loop (s0 : Sl) (ys : List D) (s5 s6 s7 s8 s9 s10 s11 : Sl) : ∀ (ds : List D) (a b : Nat) (s4 : Sl), ∃ t4, forL (pNm 4) (b1_law 0) ds (lw s0 ys (.val (.int (a : Int))) (.val (.int (b : Int))) s4 s5 s6 s7 s8 s9 s10 s11) = .ok .nx (lw s0 ys (.val (.int ((fb ds.length (a, b)).1 : Int))) (.val (.int ((fb ds.length (a, b)).2 : Int))) t4 s5 s6 s7 s8 s9 s10 s11)
  | [], a, b, s4 => ⟨s4, rfl⟩
  | d :: ds, a, b, s4 => by
    obtain ⟨t4, h⟩ := fb_loop s0 ys s5 s6 s7 s8 s9 s10 s11 ds b (a + b) (.val d)
    refine ⟨t4, ?_⟩
    rw [forL_nx (e1 := lw s0 ys (.val (.int (a : Int))) (.val (.int (b : Int))) (.val d) s5 s6 s7 s8 s9 s10 s11) (e2 := lw s0 ys (.val (.int (b : Int))) (.val (.int ((a + b : Nat) : Int))) (.val d) s5 s6 s7 s8 s9 s10 s11) rfl ?_, h]
    · rfl
    · rw [Int.natCast_add]
      unfold lw
      simp [b1_law]
theorem answers (ns : List Int) (hn : ns.length ≤ 63) : m_law [.list (ns.map .int)] = some (.ret (.val (.bool true))) := by
  obtain ⟨ys, hb, B⟩ := bag_ok hn
  obtain ⟨v, y1, e1, v0, v1, B1⟩ := take_ok B (many := 5) (by decide) (by decide)
  obtain ⟨k, rfl⟩ : ∃ n : Nat, v = (n : Int) := ⟨v.toNat, by omega⟩
  obtain ⟨t4, w⟩ := fb_loop (.val (.list (ns.map .int))) y1 .no .no .no .no .no .no .no (rngD 0 (1380 + k)) 1 1 .no
  rw [rng_len] at w
  obtain ⟨f1, f2, f3⟩ := fb_ok (1380 + k) (1, 1) (by decide) (by decide) (by decide)
  obtain ⟨f4, f5⟩ := fb_small k (by omega)
  generalize (fb (1380 + k) (1, 1)).1 = a at *
  generalize (fb (1380 + k) (1, 1)).2 = b at *
  have ra : fr ⟨(a : Int), b, by omega, by rw [Int.natAbs_natCast]; exact f3⟩ = .tuple [.int (a : Int), .int (b : Int)] := rfl
  have rb : fr ⟨(b : Int), a, by omega, by rw [Int.natAbs_natCast, Nat.Coprime, Nat.gcd_comm]; exact f3⟩ = .tuple [.int (b : Int), .int (a : Int)] := rfl
  generalize hq : (⟨(a : Int), b, by omega, by rw [Int.natAbs_natCast]; exact f3⟩ : Rat) = q at ra
  generalize hr : (⟨(b : Int), a, by omega, by rw [Int.natAbs_natCast, Nat.Coprime, Nat.gcd_comm]; exact f3⟩ : Rat) = r at rb
  have p990 : ∀ {x : Nat}, x ≤ 2 ^ 990 → x ≤ 2 ^ 1000 := fun h => Nat.le_trans h (Nat.pow_le_pow_right (by decide) (by decide))
  have bq : Bn 1000 q := by rw [← hq]; exact ⟨by show ((a : Int)).natAbs ≤ _; rw [Int.natAbs_natCast]; exact p990 f4, p990 f5⟩
  have br : Bn 1000 r := by rw [← hr]; exact ⟨by show ((b : Int)).natAbs ≤ _; rw [Int.natAbs_natCast]; exact p990 f5, p990 f4⟩
  have sr := sums_right bq br
  rw [ra, rb] at sr
  have b6 : ((b : Int) * 6) ≠ 0 := by omega
  have b7 : ((b : Int) * 6).natAbs < 2 ^ 9000 := by
    have : ((b : Int) * 6).natAbs = b * 6 := by omega
    rw [this]
    have h1 : b * 6 ≤ 2 ^ 990 * 2 ^ 3 := Nat.mul_le_mul f5 (by decide)
    rw [← Nat.pow_add] at h1
    exact Nat.lt_of_le_of_lt h1 (Nat.pow_lt_pow_right (by decide) (by decide))
  have rd := m_reduced_eq (a := (a : Int) * 6) b6 b7
  have eq : Rat.divInt ((a : Int) * 6) ((b : Int) * 6) = q := by
    rw [Rat.divInt_mul_right (by decide)]
    have h := Rat.num_divInt_den q
    have h1 : q.num = (a : Int) := by rw [← hq]
    have h2 : q.den = b := by rw [← hq]
    rw [h1, h2] at h
    exact h
  rw [eq, ra] at rd
  have m6 : mulOk (a : Int) 6 := .inr (.inr ⟨by decide, by decide⟩)
  have m7 : mulOk (b : Int) 6 := .inr (.inr ⟨by decide, by decide⟩)
  have al := alikeL (tellL_fr (Bn.lq bq (by decide)))
  rw [ra] at al
  obtain ⟨e', w2, z, a0, a2, a3, a4, a5, a6, a7, a8, a9, a10, a11, rfl, _⟩ := for_inv (pat := pNm 4) (b := b4_law 0) TuI (fun d ds e ⟨ys, a0, a2, a3, a4, a5, a6, a7, a8, a9, a10, a11, he, B⟩ => by
    subst he
    obtain ⟨e2, h1, h2⟩ := turn_ok B a0 a2 a3 (.val d) a5 a6 a7 a8 a9 a10 a11
    exact ⟨_, e2, rfl, h1, h2⟩) (rngD 0 12) (lw (.val (.list (ns.map .int))) y1 (.val (.int (a : Int))) (.val (.int (b : Int))) t4 .no .no .no .no .no .no .no) ⟨y1, _, _, _, _, _, _, _, _, _, _, _, rfl, B1⟩
  have r12 : ∀ e, rngR [.int 12] e = .ok (rngD 0 12) e := rng_nat (n := 12) (by decide)
  have rk : ∀ e, rngR [.int (1380 + (k : Int))] e = .ok (rngD 0 (1380 + k)) e := fun e => by
    have := rng_nat (n := 1380 + k) (by omega) e
    rw [Int.natCast_add] at this
    exact this
  have w : forL (pNm 4) (b1_law 0) (rngD 0 (1380 + k)) [.val (.list (ns.map .int)), .own false y1, .val (.int 1), .val (.int 1), .no, .no, .no, .no, .no, .no, .no, .no, .no] = _ := w
  simp only [m_law, runM, g_law, List.length_cons, List.length_nil, if_true]
  unfold lw at *
  generalize ns.map PyData.int = nd at *
  simp [startE, s13_law, s14_law, s15_law, hb, e1, rk, w, sr, rd, m6, m7, al, lim_is, r12, w2]
end G11

namespace G11
open L2 PySem.Spec PySem PyProof.Rows Mv Sh
set_option maxHeartbeats 0 in
theorem ends {l : PySem.W.OpenLaw} {w : World} {K : PySem.W.Frag} {h : Heap} {mg : Str → Option Value} {fa : Addr} (X : K.In h) (G : h.Ns mainGlobals mg) (hfa : mg "law" = some (.ref fa)) (nl : noLists K = true)
    (a0 : At K "common" S_common)
    (a1 : At K "reduced" S_reduced)
    (a2 : At K "added" S_added)
    (a3 : At K "less" S_less)
    (a4 : At K "times" S_times)
    (a5 : At K "over" S_over)
    (a6 : At K "compared" S_compared)
    (a7 : At K "least_of" S_least_of)
    (a8 : At K "greatest_of" S_greatest_of)
    (a9 : At K "common_den" S_common_den)
    (a10 : At K "_law_bag" S__law_bag)
    (a11 : At K "_law_take" S__law_take)
    (a12 : At K "_law_one" S__law_one)
    (a13 : At K "_law_alike" S__law_alike)
    (a14 : At K "_law_shared" S__law_shared)
    (a15 : At K "_law_ratio" S__law_ratio)
    (a16 : At K "_law_plus" S__law_plus)
    (a17 : At K "_law_minus" S__law_minus)
    (a18 : At K "_law_by" S__law_by)
    (a19 : At K "_law_over" S__law_over)
    (a20 : At K "_law_below" S__law_below)
    (a21 : At K "_law_lowest" S__law_lowest)
    (a22 : At K "_law_highest" S__law_highest)
    (a23 : At K "_law_part" S__law_part)
    (a24 : At K "_law_are_sums_right" S__law_are_sums_right)
    (a25 : At K "law" S_law)
    (gu0 : GU K "ZERO" (.tuple [(.int 0), (.int 1)]))
    (bt : Blt mg) : noLists K = true ∧ ∃ fd : FuncData, (∀ (s : Shared) (v : Value), BindsTo s fd ⟨[v], []⟩ [("script", v)]) ∧ ∀ base : Heap, K.In base → base.Ns mainGlobals mg → base.NoDigits → FnG l.prog w K mg base 5 fa fd ["script"] (spV K mg m_law) := by
  have k_ZERO := gu0.gc X G
  obtain ⟨f0, fd0, e0, F0, _⟩ := a0.ex
  have h0 := PySem.W.mg_of X G e0
  have b0 := F0.binds (ps := ["one", "other"]) fun _ _ _ _ _ _ us hl => match us, hl with | [_, _], _ => rfl
  have c_common := fun (base : Heap) (nd : base.NoDigits) => w_common (P := l.prog) (w := w) (base := base) bt nd F0 b0 h0
  obtain ⟨f1, fd1, e1, F1, _⟩ := a1.ex
  have h1 := PySem.W.mg_of X G e1
  have b1 := F1.binds (ps := ["num", "den"]) fun _ _ _ _ _ _ us hl => match us, hl with | [_, _], _ => rfl
  have c_reduced := fun (base : Heap) (nd : base.NoDigits) => w_reduced (P := l.prog) (w := w) (base := base) bt nd F1 b1 h1 (c_common base nd)
  obtain ⟨f2, fd2, e2, F2, _⟩ := a2.ex
  have h2 := PySem.W.mg_of X G e2
  have b2 := F2.binds (ps := ["parts"]) fun _ _ _ _ _ _ us hl => match us, hl with | [_], _ => rfl
  have c_added := fun (base : Heap) (nd : base.NoDigits) => w_added (P := l.prog) (w := w) (base := base) bt nd F2 b2 h2 (c_reduced base nd) k_ZERO
  obtain ⟨f3, fd3, e3, F3, _⟩ := a3.ex
  have h3 := PySem.W.mg_of X G e3
  have b3 := F3.binds (ps := ["one", "other"]) fun _ _ _ _ _ _ us hl => match us, hl with | [_, _], _ => rfl
  have c_less := fun (base : Heap) (nd : base.NoDigits) => w_less (P := l.prog) (w := w) (base := base) bt nd F3 b3 h3 (c_reduced base nd)
  obtain ⟨f4, fd4, e4, F4, _⟩ := a4.ex
  have h4 := PySem.W.mg_of X G e4
  have b4 := F4.binds (ps := ["one", "other"]) fun _ _ _ _ _ _ us hl => match us, hl with | [_, _], _ => rfl
  have c_times := fun (base : Heap) (nd : base.NoDigits) => w_times (P := l.prog) (w := w) (base := base) bt nd F4 b4 h4 (c_reduced base nd)
  obtain ⟨f5, fd5, e5, F5, _⟩ := a5.ex
  have h5 := PySem.W.mg_of X G e5
  have b5 := F5.binds (ps := ["one", "other"]) fun _ _ _ _ _ _ us hl => match us, hl with | [_, _], _ => rfl
  have c_over := fun (base : Heap) (nd : base.NoDigits) => w_over (P := l.prog) (w := w) (base := base) bt nd F5 b5 h5 (c_reduced base nd)
  obtain ⟨f6, fd6, e6, F6, _⟩ := a6.ex
  have h6 := PySem.W.mg_of X G e6
  have b6 := F6.binds (ps := ["one", "other"]) fun _ _ _ _ _ _ us hl => match us, hl with | [_, _], _ => rfl
  have c_compared := fun (base : Heap) (nd : base.NoDigits) => w_compared (P := l.prog) (w := w) (base := base) bt nd F6 b6 h6
  obtain ⟨f7, fd7, e7, F7, _⟩ := a7.ex
  have h7 := PySem.W.mg_of X G e7
  have b7 := F7.binds (ps := ["parts"]) fun _ _ _ _ _ _ us hl => match us, hl with | [_], _ => rfl
  have c_least_of := fun (base : Heap) (nd : base.NoDigits) => w_least_of (P := l.prog) (w := w) (base := base) bt nd F7 b7 h7 (c_compared base nd)
  obtain ⟨f8, fd8, e8, F8, _⟩ := a8.ex
  have h8 := PySem.W.mg_of X G e8
  have b8 := F8.binds (ps := ["parts"]) fun _ _ _ _ _ _ us hl => match us, hl with | [_], _ => rfl
  have c_greatest_of := fun (base : Heap) (nd : base.NoDigits) => w_greatest_of (P := l.prog) (w := w) (base := base) bt nd F8 b8 h8 (c_compared base nd)
  obtain ⟨f9, fd9, e9, F9, _⟩ := a9.ex
  have h9 := PySem.W.mg_of X G e9
  have b9 := F9.binds (ps := ["parts"]) fun _ _ _ _ _ _ us hl => match us, hl with | [_], _ => rfl
  have c_common_den := fun (base : Heap) (nd : base.NoDigits) => w_common_den (P := l.prog) (w := w) (base := base) bt nd F9 b9 h9 (c_common base nd)
  obtain ⟨f10, fd10, e10, F10, _⟩ := a10.ex
  have h10 := PySem.W.mg_of X G e10
  have b10 := F10.binds (ps := ["script"]) fun _ _ _ _ _ _ us hl => match us, hl with | [_], _ => rfl
  have c__law_bag := fun (base : Heap) (nd : base.NoDigits) => w__law_bag (P := l.prog) (w := w) (base := base) bt nd F10 b10 h10
  obtain ⟨f11, fd11, e11, F11, _⟩ := a11.ex
  have h11 := PySem.W.mg_of X G e11
  have b11 := F11.binds (ps := ["bag", "many"]) fun _ _ _ _ _ _ us hl => match us, hl with | [_, _], _ => rfl
  have c__law_take := fun (base : Heap) (nd : base.NoDigits) => w__law_take (P := l.prog) (w := w) (base := base) bt nd F11 b11 h11
  obtain ⟨f12, fd12, e12, F12, _⟩ := a12.ex
  have h12 := PySem.W.mg_of X G e12
  have b12 := F12.binds (ps := ["bag", "things"]) fun _ _ _ _ _ _ us hl => match us, hl with | [_, _], _ => rfl
  have c__law_one := fun (base : Heap) (nd : base.NoDigits) => w__law_one (P := l.prog) (w := w) (base := base) bt nd F12 b12 h12 (c__law_take base nd)
  obtain ⟨f13, fd13, e13, F13, _⟩ := a13.ex
  have h13 := PySem.W.mg_of X G e13
  have b13 := F13.binds (ps := ["found", "due"]) fun _ _ _ _ _ _ us hl => match us, hl with | [_, _], _ => rfl
  have c__law_alike := fun (base : Heap) (nd : base.NoDigits) => w__law_alike (P := l.prog) (w := w) (base := base) bt nd F13 b13 h13
  obtain ⟨f14, fd14, e14, F14, _⟩ := a14.ex
  have h14 := PySem.W.mg_of X G e14
  have b14 := F14.binds (ps := ["one", "other"]) fun _ _ _ _ _ _ us hl => match us, hl with | [_, _], _ => rfl
  have c__law_shared := fun (base : Heap) (nd : base.NoDigits) => w__law_shared (P := l.prog) (w := w) (base := base) bt nd F14 b14 h14
  obtain ⟨f15, fd15, e15, F15, _⟩ := a15.ex
  have h15 := PySem.W.mg_of X G e15
  have b15 := F15.binds (ps := ["num", "den"]) fun _ _ _ _ _ _ us hl => match us, hl with | [_, _], _ => rfl
  have c__law_ratio := fun (base : Heap) (nd : base.NoDigits) => w__law_ratio (P := l.prog) (w := w) (base := base) bt nd F15 b15 h15 (c__law_shared base nd)
  obtain ⟨f16, fd16, e16, F16, _⟩ := a16.ex
  have h16 := PySem.W.mg_of X G e16
  have b16 := F16.binds (ps := ["parts"]) fun _ _ _ _ _ _ us hl => match us, hl with | [_], _ => rfl
  have c__law_plus := fun (base : Heap) (nd : base.NoDigits) => w__law_plus (P := l.prog) (w := w) (base := base) bt nd F16 b16 h16 (c__law_ratio base nd)
  obtain ⟨f17, fd17, e17, F17, _⟩ := a17.ex
  have h17 := PySem.W.mg_of X G e17
  have b17 := F17.binds (ps := ["one", "other"]) fun _ _ _ _ _ _ us hl => match us, hl with | [_, _], _ => rfl
  have c__law_minus := fun (base : Heap) (nd : base.NoDigits) => w__law_minus (P := l.prog) (w := w) (base := base) bt nd F17 b17 h17 (c__law_ratio base nd)
  obtain ⟨f18, fd18, e18, F18, _⟩ := a18.ex
  have h18 := PySem.W.mg_of X G e18
  have b18 := F18.binds (ps := ["one", "other"]) fun _ _ _ _ _ _ us hl => match us, hl with | [_, _], _ => rfl
  have c__law_by := fun (base : Heap) (nd : base.NoDigits) => w__law_by (P := l.prog) (w := w) (base := base) bt nd F18 b18 h18 (c__law_ratio base nd)
  obtain ⟨f19, fd19, e19, F19, _⟩ := a19.ex
  have h19 := PySem.W.mg_of X G e19
  have b19 := F19.binds (ps := ["one", "other"]) fun _ _ _ _ _ _ us hl => match us, hl with | [_, _], _ => rfl
  have c__law_over := fun (base : Heap) (nd : base.NoDigits) => w__law_over (P := l.prog) (w := w) (base := base) bt nd F19 b19 h19 (c__law_ratio base nd)
  obtain ⟨f20, fd20, e20, F20, _⟩ := a20.ex
  have h20 := PySem.W.mg_of X G e20
  have b20 := F20.binds (ps := ["one", "other"]) fun _ _ _ _ _ _ us hl => match us, hl with | [_, _], _ => rfl
  have c__law_below := fun (base : Heap) (nd : base.NoDigits) => w__law_below (P := l.prog) (w := w) (base := base) bt nd F20 b20 h20
  obtain ⟨f21, fd21, e21, F21, _⟩ := a21.ex
  have h21 := PySem.W.mg_of X G e21
  have b21 := F21.binds (ps := ["parts"]) fun _ _ _ _ _ _ us hl => match us, hl with | [_], _ => rfl
  have c__law_lowest := fun (base : Heap) (nd : base.NoDigits) => w__law_lowest (P := l.prog) (w := w) (base := base) bt nd F21 b21 h21 (c__law_below base nd)
  obtain ⟨f22, fd22, e22, F22, _⟩ := a22.ex
  have h22 := PySem.W.mg_of X G e22
  have b22 := F22.binds (ps := ["parts"]) fun _ _ _ _ _ _ us hl => match us, hl with | [_], _ => rfl
  have c__law_highest := fun (base : Heap) (nd : base.NoDigits) => w__law_highest (P := l.prog) (w := w) (base := base) bt nd F22 b22 h22 (c__law_below base nd)
  obtain ⟨f23, fd23, e23, F23, _⟩ := a23.ex
  have h23 := PySem.W.mg_of X G e23
  have b23 := F23.binds (ps := ["bag"]) fun _ _ _ _ _ _ us hl => match us, hl with | [_], _ => rfl
  have c__law_part := fun (base : Heap) (nd : base.NoDigits) => w__law_part (P := l.prog) (w := w) (base := base) bt nd F23 b23 h23 (c__law_one base nd) (c__law_ratio base nd) (c__law_take base nd)
  obtain ⟨f24, fd24, e24, F24, _⟩ := a24.ex
  have h24 := PySem.W.mg_of X G e24
  have b24 := F24.binds (ps := ["one", "other"]) fun _ _ _ _ _ _ us hl => match us, hl with | [_, _], _ => rfl
  have c__law_are_sums_right := fun (base : Heap) (nd : base.NoDigits) => w__law_are_sums_right (P := l.prog) (w := w) (base := base) bt nd F24 b24 h24 (c__law_alike base nd) (c__law_minus base nd) (c__law_by base nd) (c__law_plus base nd) (c_compared base nd) (c_less base nd) (c_times base nd) (c_added base nd) (c_over base nd) (c__law_over base nd) (c__law_below base nd)
  obtain ⟨f25, fd25, e25, F25, _⟩ := a25.ex
  have h25 := PySem.W.mg_of X G e25
  have b25 := F25.binds (ps := ["script"]) fun _ _ _ _ _ _ us hl => match us, hl with | [_], _ => rfl
  have e := hfa.symm.trans h25
  cases e
  have F := F25
  obtain ⟨oc, od, kV, doc, pm, an,
                                                                                                                cdv, ct, osl, rfl, lk, hcd⟩ := F.ex
  refine ⟨nl, PySem.W.fnOf "law" "law" (defArgs S_law) (defBody S_law) (defScope S_law) .none kV doc pm an cdv ct, fun s v => .of_eq rfl, fun base _ _ nd => ?_⟩
  exact w_law (P := l.prog) (w := w) (base := base) bt nd F25 (c__law_bag base nd) (c_times base nd) (c__law_take base nd) (c__law_are_sums_right base nd) (c__law_alike base nd) (c__law_part base nd) (c_common_den base nd) (c_added base nd) (c__law_one base nd) (c_reduced base nd) (c__law_shared base nd) (c_least_of base nd) (c_greatest_of base nd) (c__law_by base nd) (c__law_plus base nd) (c__law_ratio base nd) (c__law_lowest base nd) (c__law_highest base nd)
end G11
open PySem PySem.W PyProof.Rows Mv
set_option maxHeartbeats 0 in
theorem PySem.Challenge.cw_anglesuntold_k11_sums_of_fractions_holds : PySem.Challenge.rw_anglesuntold_k11_sums_of_fractions.Holds := by
  w_on; o_law; k_head;
                                                                                                                (case hw => w_witness2)
  k_fill
  refine law_walkD (l := PySem.Challenge.rw_anglesuntold_k11_sums_of_fractions) (n := 63) (k := 5) (x := "script") (m := G11.m_law) rfl (by decide) rfl ⟨⟨rfl, by decide, by decide⟩, rfl⟩ (fun w h Y => PySem.W.kIn_of Y) ?F G11.answers
  case F =>
    intro w mg fa h KX G hmg
    refine' G11.ends KX G hmg ?nl ?a0 ?a1 ?a2 ?a3 ?a4 ?a5 ?a6 ?a7 ?a8 ?a9 ?a10 ?a11 ?a12 ?a13 ?a14 ?a15 ?a16 ?a17 ?a18 ?a19 ?a20 ?a21 ?a22 ?a23 ?a24 ?a25 ?gu0 (bt_mk KX G ?z)
    (case nl => with_unfolding_all exact rfl)
    (case z => simp only [List.forall_mem_cons]; refine' ⟨?z_len, ?z_abs, ?z_repr, ?z_all, ?z_sum, ?z_max, ?z_min, ?z_sorted, ?z_int, ?z_bool, ?z_str, ?z_tuple, ?z_list, ?z_dict, ?z_set, ?z_isinstance, ?z_range, ?z_enumerate, ?z_zip, ?zn⟩; (case z_len => k_is); (case z_abs => k_is); (case z_repr => k_is); (case z_all => k_is); (case z_sum => k_is); (case z_max => k_is); (case z_min => k_is); (case z_sorted => k_is); (case z_int => k_is); (case z_bool => k_is); (case z_str => k_is); (case z_tuple => k_is); (case z_list => k_is); (case z_dict => k_is); (case z_set => k_is); (case z_isinstance => k_is); (case z_range => k_is); (case z_enumerate => k_is); (case z_zip => k_is); (case zn => exact fun _ h => (List.not_mem_nil h).elim))
    (case a0 => refine' at_mk ?a ?l ?c ?k; (case a => k_is); (case l => k_is); (case c => k_is); (case k => k_is))
    (case a1 => refine' at_mk ?a ?l ?c ?k; (case a => k_is); (case l => k_is); (case c => k_is); (case k => k_is))
    (case a2 => refine' at_mk ?a ?l ?c ?k; (case a => k_is); (case l => k_is); (case c => k_is); (case k => k_is))
    (case a3 => refine' at_mk ?a ?l ?c ?k; (case a => k_is); (case l => k_is); (case c => k_is); (case k => k_is))
    (case a4 => refine' at_mk ?a ?l ?c ?k; (case a => k_is); (case l => k_is); (case c => k_is); (case k => k_is))
    (case a5 => refine' at_mk ?a ?l ?c ?k; (case a => k_is); (case l => k_is); (case c => k_is); (case k => k_is))
    (case a6 => refine' at_mk ?a ?l ?c ?k; (case a => k_is); (case l => k_is); (case c => k_is); (case k => k_is))
    (case a7 => refine' at_mk ?a ?l ?c ?k; (case a => k_is); (case l => k_is); (case c => k_is); (case k => k_is))
    (case a8 => refine' at_mk ?a ?l ?c ?k; (case a => k_is); (case l => k_is); (case c => k_is); (case k => k_is))
    (case a9 => refine' at_mk ?a ?l ?c ?k; (case a => k_is); (case l => k_is); (case c => k_is); (case k => k_is))
    (case a10 => refine' at_mk ?a ?l ?c ?k; (case a => k_is); (case l => k_is); (case c => k_is); (case k => k_is))
    (case a11 => refine' at_mk ?a ?l ?c ?k; (case a => k_is); (case l => k_is); (case c => k_is); (case k => k_is))
    (case a12 => refine' at_mk ?a ?l ?c ?k; (case a => k_is); (case l => k_is); (case c => k_is); (case k => k_is))
    (case a13 => refine' at_mk ?a ?l ?c ?k; (case a => k_is); (case l => k_is); (case c => k_is); (case k => k_is))
    (case a14 => refine' at_mk ?a ?l ?c ?k; (case a => k_is); (case l => k_is); (case c => k_is); (case k => k_is))
    (case a15 => refine' at_mk ?a ?l ?c ?k; (case a => k_is); (case l => k_is); (case c => k_is); (case k => k_is))
    (case a16 => refine' at_mk ?a ?l ?c ?k; (case a => k_is); (case l => k_is); (case c => k_is); (case k => k_is))
    (case a17 => refine' at_mk ?a ?l ?c ?k; (case a => k_is); (case l => k_is); (case c => k_is); (case k => k_is))
    (case a18 => refine' at_mk ?a ?l ?c ?k; (case a => k_is); (case l => k_is); (case c => k_is); (case k => k_is))
    (case a19 => refine' at_mk ?a ?l ?c ?k; (case a => k_is); (case l => k_is); (case c => k_is); (case k => k_is))
    (case a20 => refine' at_mk ?a ?l ?c ?k; (case a => k_is); (case l => k_is); (case c => k_is); (case k => k_is))
    (case a21 => refine' at_mk ?a ?l ?c ?k; (case a => k_is); (case l => k_is); (case c => k_is); (case k => k_is))
    (case a22 => refine' at_mk ?a ?l ?c ?k; (case a => k_is); (case l => k_is); (case c => k_is); (case k => k_is))
    (case a23 => refine' at_mk ?a ?l ?c ?k; (case a => k_is); (case l => k_is); (case c => k_is); (case k => k_is))
    (case a24 => refine' at_mk ?a ?l ?c ?k; (case a => k_is); (case l => k_is); (case c => k_is); (case k => k_is))
    (case a25 => refine' at_mk ?a ?l ?c ?k; (case a => k_is); (case l => k_is); (case c => k_is); (case k => k_is))
    (case gu0 => exact gu_mk (by k_is) (gv_tup (by k_is) rfl rfl (by decide) (gvs_cons (gv_int _ _) (gvs_cons (gv_int _ _) (gvs_nil)))))

