import PyProof.Rows.All
import Wide.All
import OpenK.AllK
import Wide.FinOn
import PySem.Challenge.RW_anglesuntold_k74_spans_that_close_by_sig
import HandS.ForMost
import HandS.Wide
import HandS.WideBits
import HandS.IsInst
import HandS.Walk
import HandS.Exc
import HandS.ExcCtx
import HandS.Deep
import HandS.Slots
import HandS.SlotsOwn
import KE.KeyNested
import KE.GoesEnum
import KE.GoesMore
import HandS.ExcOwn
import HandS.WordsExc
import HandS.More
import HandS.TupAny
import HandS.TupMul
import HandS.Style
import HandS.NoneIn
import HandS.SortInts
import HandS.Text
import PyProof.ReprRoads
import PyProof.CallFns
import HandS.Star
import HandS.Ends
import HandS.Flow
import HandS.Conv
import PyProof.AutoSeq1
import HandS.Small
import HandS.RaiseMore
import KE.SortData
import HandS.SetFor
import HandS.Strs
import PyProof.Rows.Digits
import PyProof.Rows.StrOr
import HandS.DictComp
import HandS.Defaults
import HandS.ReCall
import HandS.Iter
import PyProof.ReprLen
set_option Elab.async false
set_option linter.all false
set_option maxRecDepth 100000
/-! Mv: a layer over HandS. Values are PyData; a state gives each slot a value (frozen) or an own list. -/
namespace Mv
open L2 PySem.Spec PySem PyProof.Rows

abbrev D := PyData
/-- what a slot holds: nothing, a value, or a list that this def alone may change (io: its caller's) -/
inductive Sl where
  | no
  | val (d : D)
  | own (io : Bool) (xs : List D)
abbrev En := List Sl
inductive R (α : Type) where
  | ok (a : α) (e : En)
  | exc (c : Str) (fs : List (Str × D)) (e : En)
  | bad
abbrev M (α : Type) := En → R α
def R.bind {α β : Type} : R α → (α → En → R β) → R β
  | .ok a e, f => f a e
  | .exc c fs e, _ => .exc c fs e
  | .bad, _ => .bad
@[simp] theorem R.bind_ok {α β : Type} (a : α) (e : En) (f : α → En → R β) : (R.ok a e).bind f = f a e := rfl
@[simp] theorem R.bind_exc {α β : Type} (c : Str) (fs) (e : En) (f : α → En → R β) : (R.exc (α := α) c fs e).bind f = .exc c fs e := rfl
@[simp] theorem R.bind_bad {α β : Type} (f : α → En → R β) : (R.bad (α := α)).bind f = .bad := rfl

def isOwn (en : En) (i : Nat) : Prop := ∃ b xs, en[i]? = some (.own b xs)

/-- F: what stands frozen at the entry; Kp: what is to be kept; Z: the addresses that are not new; io: old ones that may be own -/
structure Bs where
  F : Hp
  Kp : Hp
  Z : Addr → Prop
  io : Addr → Prop

/-- a key of a dict, as a value -/
def keyD : Key → D
  | .inl i => .int i
  | .inr x => .str x
def plainT : List String := ["tuple", "list", "int", "bool", "str"]
/-- a class with slots of that name -/
structure ObC (K : PySem.W.Frag) (nm : Str) (C : Addr) : Prop where
  cls : SlX.SCls K C
  isi : SlX.SIsi K C
  nm : PySem.W.nsIn K mainGlobals nm = some (some (.ref C))
  no : ∀ T ∈ plainT, PySem.W.kitOne K (.ref C) (.type T) = some false
/-! ### data at an address: lists stand tracked (or locked), tuples tracked or written -/
/-- of such a thing nothing is told: a dict whose keys are tuples, nested too -/
def opqD : D := .dict [(.list [], .none)]
def rawN (P : Program) (w : World) (a : Addr) (xs : List (NestedKey × Addr × Value)) : HO := .ext fun h => ∃ o es ep, h.get? a = some o ∧ o.ExactDict ∧ o.data = .dict es ep ∧ es.toList = xs.map (entryOfKey (nestedKind P w)) ∧ (xs.map (·.1)).Nodup
mutual
inductive Dp (K : PySem.W.Frag) (F : Hp) : V → D → Prop
  | non : Dp K F .non .none
  | bl (b : Bool) : Dp K F (.bl b) (.bool b)
  | int (i : Int) : Dp K F (.int i) (.int i)
  | str (x : Str) : Dp K F (.str x) (.str x)
  | lst {a : Addr} {xs : List V} {ds : List D} : Rd F a (.lst xs) → DpAll K F xs ds → Dp K F (.ref a) (.list ds)
  | tup {a : Addr} {xs : List V} {ds : List D} : SqT K F a xs → DpAll K F xs ds → Dp K F (.ref a) (.tuple ds)
  | dic {a : Addr} {ks : List (Key × V)} {ds : List (D × D)} : Rd F a (.dK ks) → DpKv K F ks ds → Dp K F (.ref a) (.dict ds)
  | dit {a : Addr} {ks : List (List Key × V)} {ds : List (D × D)} : Rd F a (.dT ks) → ks ≠ [] → DpTv K F ks ds → Dp K F (.ref a) (.dict ds)
  /-- an instance of a class with slots, those of them that are told of -/
  | sob {a C dx : Addr} {nm : Str} {vs : List (Option V)} {ds : List (D × D)} : F a = some (SlX.SlO a C dx vs) → F dx = some (.xd []) → ObC K nm C → DpFs K F C vs ds → Dp K F (.ref a) (.dict ((.dict [(.int (a : Nat), .none)], .str nm) :: ds))
  | opq {a : Addr} {P : Program} {w : World} {xs : List (NestedKey × Addr × Value)} : F a = some (rawN P w a xs) → Dp K F (.ref a) opqD
inductive DpAll (K : PySem.W.Frag) (F : Hp) : List V → List D → Prop
  | nil : DpAll K F [] []
  | cons {v : V} {vs : List V} {d : D} {ds : List D} : Dp K F v d → DpAll K F vs ds → DpAll K F (v :: vs) (d :: ds)
inductive DpFs (K : PySem.W.Frag) (F : Hp) : Addr → List (Option V) → List (D × D) → Prop
  | nil {C : Addr} {vs : List (Option V)} : DpFs K F C vs []
  | cons {C p : Addr} {vs : List (Option V)} {f : Str} {i : Nat} {v : V} {d : D} {ds : List (D × D)} : SlX.Slot1 K C f p i → vs[i]? = some (some v) → Dp K F v d → DpFs K F C vs ds → DpFs K F C vs ((.str f, d) :: ds)
/-- keys ints and texts -/
inductive DpKv (K : PySem.W.Frag) (F : Hp) : List (Key × V) → List (D × D) → Prop
  | nil : DpKv K F [] []
  | cons {k : Key} {v : V} {ks : List (Key × V)} {d : D} {ds : List (D × D)} : Dp K F v d → DpKv K F ks ds → DpKv K F ((k, v) :: ks) ((keyD k, d) :: ds)
/-- keys tuples of ints and texts -/
inductive DpTv (K : PySem.W.Frag) (F : Hp) : List (List Key × V) → List (D × D) → Prop
  | nil : DpTv K F [] []
  | cons {k : List Key} {v : V} {ks : List (List Key × V)} {d : D} {ds : List (D × D)} : Dp K F v d → DpTv K F ks ds → DpTv K F ((k, v) :: ks) ((.tuple (k.map keyD), d) :: ds)
end
section
variable {K : PySem.W.Frag}
mutual
theorem Dp.l2 {F : Hp} : ∀ {d : D} {v : V}, Dp K F v d → d.hasDict = false → L2.Dp K F v d
  | .none, _, .non, _ => .non
  | .bool _, _, .bl b, _ => .bl b
  | .int _, _, .int i, _ => .int i
  | .str _, _, .str x, _ => .str x
  | .list _, _, .lst h1 h2, h => .lst (.inl h1) (DpAll.l2 h2 (by simpa only [PyData.hasDict] using h))
  | .tuple _, _, .tup h1 h2, h => .tup h1 (DpAll.l2 h2 (by simpa only [PyData.hasDict] using h))
  | .dict _, _, .dic _ _, h => by simp only [PyData.hasDict] at h; cases h
  | .dict _, _, .dit _ _ _, h => by simp only [PyData.hasDict] at h; cases h
  | .dict _, _, .sob _ _ _ _, h => by simp only [PyData.hasDict] at h; cases h
  | _, _, .opq _, h => by simp only [opqD, PyData.hasDict] at h; cases h
theorem DpAll.l2 {F : Hp} : ∀ {ds : List D} {vs : List V}, DpAll K F vs ds → PyData.hasDictAll ds = false → L2.DpAll K F vs ds
  | [], _, .nil, _ => .nil
  | _ :: _, _, .cons h1 h2, h => by
    simp only [PyData.hasDictAll, Bool.or_eq_false_iff] at h
    exact .cons (Dp.l2 h1 h.1) (DpAll.l2 h2 h.2)
end
mutual
theorem noDict_lay : ∀ {d : D}, d.canLay0 = true → d.hasDict = false
  | .none, _ => by simp only [PyData.hasDict]
  | .bool _, _ => by simp only [PyData.hasDict]
  | .int _, _ => by simp only [PyData.hasDict]
  | .str _, _ => by simp only [PyData.hasDict]
  | .list _, h => by simp only [PyData.hasDict]; exact noDicts_lay (by simpa only [PyData.canLay0] using h)
  | .tuple _, h => by simp only [PyData.hasDict]; exact noDicts_lay (by simpa only [PyData.canLay0] using h)
  | .dict _, h => by simp only [PyData.canLay0] at h; cases h
theorem noDicts_lay : ∀ {ds : List D}, PyData.canLayAll0 ds = true → PyData.hasDictAll ds = false
  | [], _ => by simp only [PyData.hasDictAll]
  | d :: ds, h => by
    simp only [PyData.canLayAll0, Bool.and_eq_true] at h
    simp only [PyData.hasDictAll, noDict_lay h.1, noDicts_lay h.2, Bool.or_self]
end
theorem rd_mono {F F' : Hp} {a : Addr} {u : HO} (e : Same F F') (h : Rd F a u) : Rd F' a u := h.imp (e _ _) fun ⟨o, q⟩ => ⟨o, e _ _ q⟩
theorem sqT_mono {F F' : Hp} {a : Addr} {xs : List V} (e : Same F F') (h : SqT K F a xs) : SqT K F' a xs := by
  rcases h with
                                                                                                                (h | ⟨o, h⟩) | h
  · exact .inl (.inl (e _ _ h))
  · exact .inl
                                                                                                                  (.inr ⟨o, e _ _ h⟩)
  · exact .inr h
mutual
theorem dp_mono {F F' : Hp} (e : Same F F') : ∀ {d : D} {v : V}, Dp K F v d → Dp K F' v d
  | .none, _, .non => .non
  | .bool _, _, .bl b => .bl b
  | .int _, _, .int i => .int i
  | .str _, _, .str x => .str x
  | .list _, _, .lst h1 h2 => .lst (rd_mono e h1) (dps_mono e h2)
  | .tuple _, _, .tup h1 h2 => .tup (sqT_mono e h1) (dps_mono e h2)
  | .dict _, _, .dic h1 h2 => .dic (rd_mono e h1) (dpk_mono e h2)
  | .dict _, _, .dit h1 h0 h2 => .dit (rd_mono e h1) h0 (dpt_mono e h2)
  | .dict _, _, .sob h1 h2 c1 h3 => .sob (e _ _ h1) (e _ _ h2) c1 (dpf_mono e h3)
  | _, _, .opq h1 => .opq (e _ _ h1)
theorem dps_mono {F F' : Hp} (e : Same F F') : ∀ {ds : List D} {vs : List V}, DpAll K F vs ds → DpAll K F' vs ds
  | [], _, .nil => .nil
  | _ :: _, _, .cons h1 h2 => .cons (dp_mono e h1) (dps_mono e h2)
theorem dpk_mono {F F' : Hp} (e : Same F F') : ∀ {ds : List (D × D)} {vs : List (Key × V)}, DpKv K F vs ds → DpKv K F' vs ds
  | [], _, .nil => .nil
  | _ :: _, _, .cons h1 h2 => .cons (dp_mono e h1) (dpk_mono e h2)
theorem dpf_mono {F F' : Hp} (e : Same F F') : ∀ {C : Addr} {vs : List (Option V)} {ds : List (D × D)}, DpFs K F C vs ds → DpFs K F' C vs ds
  | _, _, [], .nil => .nil
  | _, _, _ :: _, .cons h1 h2 h3 h4 => .cons h1 h2 (dp_mono e h3) (dpf_mono e h4)
theorem dpt_mono {F F' : Hp} (e : Same F F') : ∀ {ds : List (D × D)} {vs : List (List Key × V)}, DpTv K F vs ds → DpTv K F' vs ds
  | [], _, .nil => .nil
  | _ :: _, _, .cons h1 h2 => .cons (dp_mono e h1) (dpt_mono e h2)
end
theorem dps_len {F : Hp} : ∀ {vs : List V} {ds : List D}, DpAll K F vs ds → vs.length = ds.length
  | _, _, .nil => rfl
  | _, _, .cons _ h => by rw [List.length_cons, List.length_cons, dps_len h]
theorem dps_get {F : Hp} : ∀ {vs : List V} {ds : List D} {i : Nat} {v : V} {d : D}, DpAll K F vs ds → vs[i]? = some v → ds[i]? = some d → Dp K F v d
  | _, _, i, _, _, .nil, h, _ => by simp at h
  | _, _, 0, v, d, .cons r _, h, h' => by
    simp at h h'
    subst h; subst h'
    exact r
  | _, _, i + 1, v, d, .cons _ t, h, h' => dps_get (i := i) t (by simpa using h) (by simpa using h')
theorem dps_app {F : Hp} : ∀ {vs ws : List V} {ds es : List D}, DpAll K F vs ds → DpAll K F ws es → DpAll K F (vs ++ ws) (ds ++ es)
  | _, _, _, _, .nil, h => h
  | _, _, _, _, .cons a b, h => .cons a (dps_app b h)
theorem dps_one {F : Hp} {v : V} {d : D} (h : Dp K F v d) : DpAll K F [v] [d] := .cons h .nil
theorem dps_take {F : Hp} : ∀ {vs : List V} {ds : List D} (n : Nat), DpAll K F vs ds → DpAll K F (vs.take n) (ds.take n)
  | _, _, 0, _ => .nil
  | _, _, _ + 1, .nil => .nil
  | _, _, n + 1, .cons a b => .cons a (dps_take n b)
theorem dps_drop {F : Hp} : ∀ {vs : List V} {ds : List D} (n : Nat), DpAll K F vs ds → DpAll K F (vs.drop n) (ds.drop n)
  | _, _, 0, h => h
  | _, _, _ + 1, .nil => .nil
  | _, _, n + 1, .cons a b => dps_drop n b
theorem dps_set {F : Hp} {v : V} {d : D} (r : Dp K F v d) : ∀ {vs : List V} {ds : List D} (n : Nat), DpAll K F vs ds → DpAll K F (vs.set n v) (ds.set n d)
  | _, _, _, .nil => .nil
  | _, _, 0, .cons a b => .cons r b
  | _, _, n + 1, .cons a b => .cons a (dps_set r n b)
theorem dps_ints {F : Hp} : ∀ {vs : List V} {ns : List Int}, DpAll K F vs (ns.map PyData.int) → vs = ns.map V.int
  | _, [], .nil => rfl
  | _, _ :: _, .cons (.int _) h => by rw [dps_ints h]; rfl
theorem dps_bools {F : Hp} : ∀ {vs : List V} {ns : List Bool}, DpAll K F vs (ns.map PyData.bool) → vs = ns.map V.bl
  | _, [], .nil => rfl
  | _, _ :: _, .cons (.bl _) h => by rw [dps_bools h]; rfl

/-- the frozen part and the heap have grown, nothing else -/
structure Gr (F H F' H' : Hp) : Prop where
  ff : Same F F'
  fh : Same F' H'
  hh : Same H H'
  nw : ∀ a o, F' a = some o → F a = some o ∨ H a = none
theorem Gr.refl {F H : Hp} (s : Same F H) : Gr F H F H := ⟨.refl _, s, .refl _, fun _ _ h => .inl h⟩
theorem Gr.trans {F H F1 H1 F2 H2 : Hp} (a : Gr F H F1 H1) (b : Gr F1 H1 F2 H2) : Gr F H F2 H2 :=
  ⟨a.ff.trans b.ff, b.fh, a.hh.trans b.hh, fun x o h => (b.nw x o h).elim (fun q => a.nw x o q) fun q => .inr (a.hh.free q)⟩
theorem same_upd {H : Hp} {p : Addr} {o : HO} (h :
                                                                                                              H p = none) : Same H (upd H p o) := fun b x e => by
  rw [upd_ne (ne_of_none e h)]
  exact e
theorem same_upd2 {F H : Hp} {p : Addr} {o : HO} (s : Same F H) (h : F p = none) : Same F (upd H p o) := fun b x e => by
  rw [upd_ne (ne_of_none e h)]
  exact s _ _ e
/-- a new frozen thing -/
theorem Gr.laid {F H : Hp} {p : Addr} {o : HO} (s : Same F H) (h : H p = none) : Gr F H (upd F p o) (upd H p o) := by
  have hF : F p = none := s.free h
  refine ⟨same_upd hF, fun b x e => ?_, same_upd h, fun b x e => ?_⟩
  · by_cases hb : b = p
    · subst hb; rw [upd_same] at e ⊢; exact e
    · rw [upd_ne hb] at e ⊢; exact s _ _ e
  · by_cases hb : b = p
    · subst hb; exact .inr h
    · rw [upd_ne hb] at e; exact .inl e
/-- a new own thing -/
theorem Gr.made {F H : Hp} {p : Addr} {o : HO} (s : Same F H) (h : H p = none) : Gr F H F (upd H p o) :=
  ⟨.refl _, fun b x e => same_upd h _ _ (s _ _ e), same_upd h, fun _ _ e => .inl e⟩

structure Sim (K : PySem.W.Frag) (B : Bs) (σ : L2.St) (en : En) (F H : Hp) : Prop where
  len : σ.length = en.length
  sub : Same F H
  f0 : Same B.F F
  new : ∀ a o, F a = some o → B.F a = some o ∨ ¬ B.Z a
  kp : Same B.Kp H
  z : ∀ a, B.Z a → H a ≠ none
  val : ∀ (i : Nat) (d : D), en[i]? = some (.val d) → ∃ v, σ[i]? = some (some v) ∧ Dp K F v d
  own : ∀ (i : Nat) (b : Bool) (xs : List D), en[i]? = some (.own b xs) → ∃ a vs, σ[i]? = some (some (.ref a)) ∧ H a = some (.lst vs) ∧ F a = none ∧ DpAll K F vs xs ∧ B.Kp a = none ∧ (b = false → ¬ B.Z a) ∧ (b = true → B.io a)
  apart : ∀ (i j : Nat) (a : Addr), i ≠ j → isOwn en i → isOwn en j → σ[i]? = some (some (.ref a)) → σ[j]? = some (some (.ref a)) → False

variable {B : Bs} {σ : L2.St} {en : En} {F H F' H' : Hp}
theorem Sim.gr (S : Sim K B σ en F H) (g : Gr F H F' H') : Sim K B σ en F' H' where
  len := S.len
  sub := g.fh
  f0 := S.f0.trans g.ff
  new := fun a o h => (g.nw a o h).elim (S.new a o) fun q => .inr fun z => S.z a z q
  kp := S.kp.trans g.hh
  z := fun a z q => S.z a z (g.hh.free q)
  val := fun i d h => let ⟨v, h1, h2⟩ := S.val i d h; ⟨v, h1, dp_mono g.ff h2⟩
  own := fun i b xs h => by
    obtain ⟨a, vs, h1, h2, h3, h4, h5⟩ := S.own i b xs h
    refine ⟨a, vs, h1, g.hh _ _ h2, ?_, dps_mono g.ff h4, h5⟩
    cases q : F' a with
    | none => rfl
    | some o =>
      rcases g.nw a o q with e | e
      · rw [h3] at e; cases e
      · rw [h2] at e; cases e
  apart := S.apart

/-- a result: frozen, or a new own list -/
def Rl (K : PySem.W.Frag) (B : Bs) (σ : L2.St) (en : En) (F H : Hp) (v : V) : Sl → Prop
  | .val d => Dp K F v d
  | .own b xs => b = false ∧ ∃ a vs, v = .ref a ∧ H a = some (.lst vs) ∧ F a = none ∧ DpAll K F vs xs ∧ B.Kp a = none ∧ ¬ B.Z a ∧ ∀ i, isOwn en i → σ[i]? ≠ some (some (.ref a))
  | .no => False

/-- an own list that stands in no slot is frozen -/
theorem Sim.freeze {v : V} {b : Bool} {xs : List D} (S : Sim K B σ en F H) (r : Rl K B σ en F H v (.own b xs)) : ∃ F', Same F F' ∧ Sim K B σ en F' H ∧ Dp K F' v (.list xs) := by
  obtain ⟨rfl, a, vs, rfl, h2, h3, h4, h5, h6, h7⟩ := r
  have s1 : Same F (upd F a (.lst vs)) := same_upd h3
  refine ⟨upd F a (.lst vs), s1, ⟨S.len, fun c o e => ?_, S.f0.trans s1, fun c o e => ?_, S.kp, S.z, fun i d h => ?_, fun i b' ys h => ?_, S.apart⟩, .lst (.inl upd_same) (dps_mono s1 h4)⟩
  · by_cases hb : c = a
    · subst hb; rw [upd_same] at e; cases e; exact h2
    · rw [upd_ne hb] at e; exact S.sub _ _ e
  · by_cases hb : c = a
    · subst hb; exact .inr h6
    · rw [upd_ne hb] at e; exact S.new _ _ e
  · obtain ⟨v, e1, e2⟩ := S.val i d h
    exact ⟨v, e1, dp_mono s1 e2⟩
  · obtain ⟨a', vs', e1, e2, e3, e4, e5⟩ := S.own i b' ys h
    refine ⟨a', vs', e1, e2, ?_, dps_mono s1 e4, e5⟩
    rw [upd_ne]
    · exact e3
    · rintro rfl
      exact h7 i ⟨_, _, h⟩ e1

theorem isOwn_set {en : En} {i j : Nat} {s : Sl} (h : isOwn (en.set i s) j) : (j = i ∧ ∃ b xs, s = .own b xs) ∨ (j ≠ i ∧ isOwn en j) := by
  obtain ⟨b, xs, h⟩ := h
  rw [List.getElem?_set] at h
  by_cases e : i = j
  · subst e
    rw [if_pos rfl] at h
    split at h
    · exact .inl ⟨rfl, b, xs, Option.some.inj h⟩
    · cases h
  · rw [if_neg e] at h
    exact .inr ⟨fun z => e z.symm, b, xs, h⟩
theorem isOwn_out {en : En} {i : Nat} {b : Bool} {xs : List D} (h : en[i]? = some (.own b xs)) : isOwn en i := ⟨b, xs, h⟩

/-- a slot's own list is frozen where it is read -/
theorem Sim.freezeSlot {i : Nat} {xs : List D} (S : Sim K B σ en F H) (h : en[i]? = some (.own false xs)) :
    ∃ F' v, Same F F' ∧ Sim K B σ (en.set i (.val (.list xs))) F' H ∧ σ[i]? = some (some v) ∧ Dp K F' v (.list xs) := by
  obtain ⟨a, vs, h1, h2, h3, h4, h5, h6, _⟩ := S.own i _ xs h
  have s1 : Same F (upd F a (.lst vs)) := same_upd h3
  have dp : Dp K (upd F a (.lst vs)) (.ref a) (.list xs) := .lst (.inl upd_same) (dps_mono s1 h4)
  refine ⟨upd F a (.lst vs), .ref a, s1, ⟨by rw [List.length_set]; exact S.len, fun c o e => ?_, S.f0.trans s1, fun c o e => ?_, S.kp, S.z, fun j d hj => ?_, fun j b' ys hj => ?_, fun j k c hjk hj hk => ?_⟩, h1, dp⟩
  · by_cases hb : c = a
    · subst hb; rw [upd_same] at e; cases e; exact h2
    · rw [upd_ne hb] at e; exact S.sub _ _ e
  · by_cases hb : c = a
    · subst hb; exact .inr (h6 rfl)
    · rw [upd_ne hb] at e; exact S.new _ _ e
  · rw [List.getElem?_set] at hj
    by_cases e : i = j
    · subst e
      rw [if_pos rfl] at hj
      split at hj
      · cases hj; exact ⟨_, h1, dp⟩
      · cases hj
    · rw [if_neg e] at hj
      obtain ⟨v, e1, e2⟩ := S.val j d hj
      exact ⟨v, e1, dp_mono s1 e2⟩
  · rw [List.getElem?_set] at hj
    by_cases e : i = j
    · subst e
      rw [if_pos rfl] at hj
      split at hj
      · cases hj
      · cases hj
    · rw [if_neg e] at hj
      obtain ⟨a', vs', e1, e2, e3, e4, e5⟩ := S.own j b' ys hj
      refine ⟨a', vs', e1, e2, ?_, dps_mono s1 e4, e5⟩
      rw [upd_ne]
      · exact e3
      · rintro rfl
        exact S.apart i j _ e (isOwn_out h) (isOwn_out hj) h1 e1
  · rcases isOwn_set hj with ⟨_, _, _, z⟩ | ⟨_, hj⟩
    · cases z
    · rcases isOwn_set hk with ⟨_, _, _, z⟩ | ⟨_, hk⟩
      · cases z
      · exact S.apart j k c hjk hj hk

/-- a slot is stored -/
theorem Sim.store {i : Nat} {v : V} {s : Sl} (S : Sim K B σ en F H) (r : Rl K B σ en F H v s) : Sim K B (σ.set i (some v)) (en.set i s) F H := by
  refine ⟨by rw [List.length_set, List.length_set]; exact S.len, S.sub, S.f0, S.new, S.kp, S.z, fun j d hj => ?_, fun j b' ys hj => ?_, fun j k c hjk hj hk e1 e2 => ?_⟩
  · rw [List.getElem?_set] at hj
    by_cases e : i = j
    · subst e
      rw [if_pos rfl] at hj
      split at hj
      · rename_i hlt
        cases hj
        exact ⟨v, by rw [List.getElem?_set, if_pos rfl, if_pos (by rw [S.len]; exact hlt)], r⟩
      · cases hj
    · rw [if_neg e] at hj
      obtain ⟨w, e1, e2⟩ := S.val j d hj
      exact ⟨w, by rw [List.getElem?_set_ne e]; exact e1, e2⟩
  · rw [List.getElem?_set] at hj
    by_cases e : i = j
    · subst e
      rw [if_pos rfl] at hj
      split at hj
      · rename_i hlt
        cases hj
        obtain ⟨rfl, a, vs, rfl, h2, h3, h4, h5, h6, h7⟩ := r
        exact ⟨a, vs, by rw [List.getElem?_set, if_pos rfl, if_pos (by rw [S.len]; exact hlt)], h2, h3, h4, h5, fun _ => h6, fun z => by cases z⟩
      · cases hj
    · rw [if_neg e] at hj
      obtain ⟨a, vs, e1, e2⟩ := S.own j b' ys hj
      exact ⟨a, vs, by rw [List.getElem?_set_ne e]; exact e1, e2⟩
  · have key : ∀ (j k : Nat), j = i → k ≠ i → isOwn (en.set i s) j → isOwn en k → (σ.set i (some v))[j]? = some (some (.ref c)) → (σ.set i (some v))[k]? = some (some (.ref c)) → False := by
      clear hj hk e1 e2 hjk
      rintro j' k' rfl hki oj ok e1 e2
      rcases isOwn_set oj with ⟨_, b, xs, rfl⟩ | ⟨q, _⟩
      · obtain ⟨rfl, a, vs, rfl, h2, h3, h4, h5, h6, h7⟩ := r
        rw [List.getElem?_set, if_pos rfl] at e1
        split at e1
        · cases e1
          rw [List.getElem?_set_ne (Ne.symm hki)] at e2
          exact h7 k' ok e2
        · cases e1
      · exact q rfl
    by_cases hji : j = i
    · by_cases hki : k = i
      · exact hjk (hji.trans hki.symm)
      · rcases isOwn_set hk with ⟨q, _⟩ | ⟨_, hk'⟩
        · exact hki q
        · exact key j k hji hki hj hk' e1 e2
    · by_cases hki : k = i
      · rcases isOwn_set hj with ⟨q, _⟩ | ⟨_, hj'⟩
        · exact hji q
        · exact key k j hki hji hk hj' e2 e1
      · rcases isOwn_set hj with ⟨q, _⟩ | ⟨_, hj'⟩
        · exact hji q
        · rcases isOwn_set hk with ⟨q, _⟩ | ⟨_, hk'⟩
          · exact hki q
          · rw [List.getElem?_set_ne (Ne.symm hji)] at e1
            rw [List.getElem?_set_ne (Ne.symm hki)] at e2
            exact S.apart j k c hjk hj' hk' e1 e2

/-- a slot's own list is changed -/
theorem Sim.change {i : Nat} {b : Bool} {xs ys : List D} {a : Addr} {vs ws : List V} (S : Sim K B σ en F H) (h : en[i]? = some (.own b xs)) (h1 : σ[i]? = some (some (.ref a))) (h2 : H a = some (.lst vs)) (h3 : DpAll K F ws ys) :
    Sim K B σ (en.set i (.own b ys)) F (upd H a (.lst ws)) := by
  obtain ⟨a', vs', e1, e2, e3, e4, e5, e6, e7⟩ := S.own i b xs h
  rw [h1] at e1
  cases e1
  refine ⟨by rw [List.length_set]; exact S.len, same_upd2 S.sub e3, S.f0, S.new, same_upd2 S.kp e5, fun c z q => ?_, fun j d hj => ?_, fun j b' zs hj => ?_, fun j k c hjk hj hk => ?_⟩
  · by_cases hb : c = a
    · subst hb; rw [upd_same] at q; cases q
    · rw [upd_ne hb] at q; exact S.z c z q
  · rw [List.getElem?_set] at hj
    by_cases e : i = j
    · subst e
      rw [if_pos rfl] at hj
      split at hj
      · cases hj
      · cases hj
    · rw [if_neg e] at hj
      exact S.val j d hj
  · rw [List.getElem?_set] at hj
    by_cases e : i = j
    · subst e
      rw [if_pos rfl] at hj
      split at hj
      · cases hj
        exact ⟨a, ws, h1, upd_same, e3, h3, e5, e6, e7⟩
      · cases hj
    · rw [if_neg e] at hj
      obtain ⟨c, us, q1, q2, q3⟩ := S.own j b' zs hj
      refine ⟨c, us, q1, ?_, q3⟩
      rw [upd_ne]
      · exact q2
      · rintro rfl
        exact S.apart i j _ e (isOwn_out h) (isOwn_out hj) h1 q1
  · have hj' : isOwn en j := by
      rcases isOwn_set hj with ⟨q, _⟩ | ⟨_, q⟩
      · rw [q]; exact isOwn_out h
      · exact q
    have hk' : isOwn en k := by
      rcases isOwn_set hk with ⟨q, _⟩ | ⟨_, q⟩
      · rw [q]; exact isOwn_out h
      · exact q
    exact S.apart j k c hjk hj' hk'
end
end Mv

namespace Mv
open L2 PySem.Spec PySem PyProof.Rows

/-- the class of an exception by name, its fields -/
def RX (K : PySem.W.Frag) (mg : Str → Option Value) (F H : Hp) (c : Str) (fs : List (Str × D)) (cls : Value) (d : Option Addr) : Prop :=
  mg c = some cls ∧ (fs = [] ∨ ∃ dx vs, d = some dx ∧ H dx = some (.xd vs) ∧ vs.map (·.1) = fs.map (·.1) ∧ DpAll K F (vs.map (·.2)) (fs.map (·.2)))

section
variable {K : PySem.W.Frag} {mg : Str → Option Value} {B : Bs} {W : WX} {σ : L2.St} {F F1 H : Hp} {α β : Type}
def Post (K : PySem.W.Frag) (mg : Str → Option Value) (B : Bs) (W : WX) (σ : L2.St) (F : Hp) (k : α → En → Hp → Hp → Prop) : R α → Prop
  | .ok a en' => ∀ F' H', Sim K B σ en' F' H' → Same F F' → k a en' F' H'
  | .exc c fs en' => ∀ F' H' cls d, Sim K B σ en' F' H' → Same F F' → RX K mg F' H' c fs cls d → W cls d σ H'
  | .bad => False
theorem Post.up {k : α → En → Hp → Hp → Prop} {r : R α} (p : Post K mg B W σ F k r) (s : Same F F1) : Post K mg B W σ F1 k r := by
  cases r with
  | ok a e => exact fun F' H' S q => p F' H' S (s.trans q)
  | exc c fs e => exact fun F' H' cls d S q => p F' H' cls d S (s.trans q)
  | bad => exact p
theorem Post.bind {k : β → En → Hp → Hp → Prop} {r : R α} {g : α → En → R β} (p : Post K mg B W σ F k (r.bind g)) :
    Post K mg B W σ F (fun a en1 F1 _ => Post K mg B W σ F1 k (g a en1)) r := by
  cases r with
  | ok a e => exact fun F' H' S q => Post.up p q
  | exc c fs e => exact p
  | bad => exact p
theorem Post.imp {k k' : α → En → Hp → Hp → Prop} {r : R α} (p : Post K mg B W σ F k r) (h : ∀ a en' F' H', Sim K B σ en' F' H' → Same F F' → k a en' F' H' → k' a en' F' H') : Post K mg B W σ F k' r := by
  cases r with
  | ok a e => exact fun F' H' S q => h a e F' H' S q (p F' H' S q)
  | exc c fs e => exact p
  | bad => exact p

def tV (K : PySem.W.Frag) (mg : Str → Option Value) (B : Bs) (W : WX) (f : M Sl) : TE := fun σ H Q => ∃ F en, Sim K B σ en F H ∧ Post K mg B W σ F (fun r en' F' H' => ∀ v, Rl K B σ en' F' H' v r → Q v H') (f en)
def tD (K : PySem.W.Frag) (mg : Str → Option Value) (B : Bs) (W : WX) (f : M D) : TE := fun σ H Q => ∃ F en, Sim K B σ en F H ∧ Post K mg B W σ F (fun d _ F' H' => ∀ v, Dp K F' v d → Q v H') (f en)
def tDs (K : PySem.W.Frag) (mg : Str → Option Value) (B : Bs) (W : WX) (f : M (List D)) : TA := fun σ H Q => ∃ F en, Sim K B σ en F H ∧ Post K mg B W σ F (fun ds _ F' H' => ∀ vs, DpAll K F' vs ds → Q vs H') (f en)
def tBl (K : PySem.W.Frag) (mg : Str → Option Value) (B : Bs) (W : WX) (f : M Bool) : TT := fun σ H Q => ∃ F en, Sim K B σ en F H ∧ Post K mg B W σ F (fun b _ _ H' => Q b H') (f en)
end

def VE (X : Cx) (W : WX) (e : Expr) (f : M Sl) : Prop := ∀ B, PE X e (tV X.K X.mg B W f)
def VD (X : Cx) (W : WX) (e : Expr) (f : M D) : Prop := ∀ B, PE X e (tD X.K X.mg B W f)
def VDs (X : Cx) (W : WX) (es : List Expr) (f : M (List D)) : Prop := ∀ B, PA X es (tDs X.K X.mg B W f)
def VB (X : Cx) (W : WX) (e : Expr) (f : M Bool) : Prop := ∀ B, PT X e (tBl X.K X.mg B W f)

section
variable {X : Cx} {e : Expr} {es : List Expr}
theorem peWk {t t' : TE} (h : PE X e t) (w : ∀ σ H Q, t' σ H Q → t σ H Q) : PE X e t' := ⟨fun pins s σ H Q I q => h.run pins s σ H Q I (w _ _ _ q)⟩
theorem ptWk {t t' : TT} (h : PT X e t) (w : ∀ σ H Q, t' σ H Q → t σ H Q) : PT X e t' := ⟨fun pins s σ H Q I q => h.run pins s σ H Q I (w _ _ _ q)⟩
theorem pwWk {t t' : TT} (h : PW X e t) (w : ∀ σ H Q, t' σ H Q → t σ H Q) : PW X e t' := ⟨fun wh pins s σ H Q I q => h.run wh pins s σ H Q I (w _ _ _ q)⟩
theorem paWk {t t' : TA} (h : PA X es t) (w : ∀ σ H Q, t' σ H Q → t σ H Q) : PA X es t' := ⟨fun pos pins s σ H Q I q => h.run pos pins s σ H Q I (w _ _ _ q)⟩
theorem psWk {st : Stmt} {t t' : TS} (h : PS X st t) (w : ∀ D σ H, t' D σ H → t D σ H) : PS X st t' := ⟨fun pins s σ H D I q => h.run pins s σ H D I (w _ _ _ q)⟩
theorem pssWk {st : List Stmt} {t t' : TS} (h : PSs X st t) (w : ∀ D σ H, t' D σ H → t D σ H) : PSs X st t' := ⟨fun pins s σ H D I q => h.run pins s σ H D I (w _ _ _ q)⟩
theorem piWk {tg : Expr} {t t' : TI} (h : PI X tg e t) (w : ∀ σ H Q, t' σ H Q → t σ H Q) : PI X tg e t' := ⟨fun pins s σ H Q I q => h.run pins s σ H Q I (w _ _ _ q)⟩
end

/-- an own list that is handed on is frozen -/
def frzS : Sl → En → R D
  | .val d, e => .ok d e
  | .own false xs, e => .ok (.list xs) e
  | _, _ => .bad
@[simp] theorem frzS_val (d : D) (e : En) : frzS (.val d) e = .ok d e := rfl
@[simp] theorem frzS_own (xs : List D) (e : En) : frzS (.own false xs) e = .ok (.list xs) e := rfl
def vD (f : M Sl) : M D := fun en => (f en).bind frzS
section
variable {X : Cx} {W : WX} {e : Expr} {es : List Expr} {f : M Sl} {pos : Pos}
theorem VE.d (h : VE X W e f) : VD X W e (vD f) := fun B => peWk (h B) fun σ H Q ⟨F, en, S, p⟩ => by
  refine ⟨F, en, S, (Post.bind p).imp fun r en1 F1 H1 S1 s1 q v rv => ?_⟩
  cases r with
  | no => exact rv.elim
  | val d => exact q F1 H1 S1 (.refl _) v rv
  | own b xs =>
    obtain ⟨F2, s2, S2, dv⟩ := S1.freeze rv
    obtain ⟨rfl, _⟩ := rv
    exact q F2 H1 S2 s2 v dv
theorem VD.v {g : M D} (h : VD X W e g) : VE X W e (fun en => (g en).bind fun d e => .ok (.val d) e) := fun B => peWk (h B) fun σ H Q ⟨F, en, S, p⟩ =>
  ⟨F, en, S, (Post.bind p).imp fun d en1 F1 H1 S1 s1 q v rv => q F1 H1 S1 (.refl _) v rv⟩

/-! ### names, constants -/
def vVar (i : Nat) : M Sl := fun en => match en[i]? with
  | some (.val d) => .ok (.val d) en
  | some (.own false xs) => .ok (.val (.list xs)) (en.set i (.val (.list xs)))
  | _ => .bad
theorem ve_var (i : Nat) {x : Str} (hN : X.N[i]? = some x := by rfl) (hv : Vis X.env.scope x := by first | exact Or.inl rfl | exact Or.inr (Or.inl rfl) | exact Or.inr (Or.inr rfl)) (hd : (x == ("__debug__" : Str)) = false := by decide)
    (hcd : (x == ("__classdict__" : Str)) = false := by decide) : VE X W (.Name x pos) (vVar i) := fun B => peWk (pe_var hN hv hd hcd) fun σ H Q ⟨F, en, S, p⟩ => by
  unfold vVar at p
  split at p
  · rename_i d h
    obtain ⟨v, h1, h2⟩ := S.val i d h
    exact ⟨v, h1, p F H S (.refl _) v h2⟩
  · rename_i xs h
    obtain ⟨F', v, s1, S1, h1, h2⟩ := S.freezeSlot h
    exact ⟨v, h1, p F' H S1 s1 v h2⟩
  · exact p.elim
def vC (d : D) : M Sl := fun en => .ok (.val d) en
theorem ve_c {v : V} {d : D} (h : PE X e (tC v)) (hd : ∀ F, Dp X.K F v d) : VE X W e (vC d) := fun B => peWk h fun σ H Q ⟨F, en, S, p⟩ => p F H S (.refl _) v (hd F)
theorem ve_int {i j} : VE X W (.Constant (.int i) j pos) (vC (.int i)) := ve_c pe_int fun _ => .int i
theorem ve_bl {b j} : VE X W (.Constant (.bool b) j pos) (vC (.bool b)) := ve_c pe_bl fun _ => .bl b
theorem ve_non {j} : VE X W (.Constant .none j pos) (vC .none) := ve_c pe_non fun _ => .non
/-- a constant of the module -/
theorem ve_glob {x : Str} {v : V} {u : Value} {d : D} (hg : Gl X x) (hm : X.mg x = some u) (r : RelV v u) (dv : ∀ F, Dp X.K F v d) (hd : (x == ("__debug__" : Str)) = false := by decide) : VE X W (.Name x pos) (vC d) := ve_c (pe_glob hg hm r hd) dv

/-! ### lists of arguments -/
def vNil : M (List D) := fun en => .ok [] en
def vCons (f : M Sl) (g : M (List D)) : M (List D) := fun en => (vD f en).bind fun d e => (g e).bind fun ds e2 => .ok (d :: ds) e2
theorem vds_nil : VDs X W [] vNil := fun B => paWk pa_nil fun σ H Q ⟨F, en, S, p⟩ => p F H S (.refl _) [] .nil
theorem vds_cons {g : M (List D)} (h : VE X W e f) (hr : VDs X W es g) (hs : starEach (e :: es) X.env = (false, eval e X.env) :: starEach es X.env := by rfl) : VDs X W (e :: es) (vCons f g) := fun B =>
  paWk (pa_cons (h.d B) (hr B) hs) fun σ H Q ⟨F, en, S, p⟩ => by
    refine ⟨F, en, S, (Post.bind p).imp fun d en1 F1 H1 S1 s1 q v rv => ?_⟩
    refine ⟨F1, en1, S1, (Post.bind q).imp fun ds en2 F2 H2 S2 s2 q2 vs rvs => ?_⟩
    exact q2 F2 H2 S2 (.refl _) _ (.cons (dp_mono s2 rv) rvs)
abbrev LIM : Nat := 1000000
theorem lim_line {n : Nat} (h : n ≤ LIM) : n ≤ sizeLine := by rw [sizeLine_eq]; unfold LIM at h; omega
theorem lim_lt {n : Nat} (h : n ≤ LIM) : n < sizeLine := by rw [sizeLine_eq]; unfold LIM at h; omega

/-- what a step of the machine gives: frozen, or a new own list -/
def RlF (K : PySem.W.Frag) (F' H H' : Hp) (v : V) : Sl → Prop
  | .val d => Dp K F' v d
  | .own b xs => b = false ∧ ∃ a vs, v = .ref a ∧ H' a = some (.lst vs) ∧ F' a = none ∧ DpAll K F' vs xs ∧ H a = none
  | .no => False
def Kd (K : PySem.W.Frag) (F H : Hp) (Q : VK) : Option Sl → Prop
  | some r => ∀ F' H' v, Gr F H F' H' → RlF K F' H H' v r → Q v H'
  | none => False
theorem Sim.res {K : PySem.W.Frag} {B : Bs} {σ : L2.St} {en : En} {F H F' H' : Hp} {v : V} {r : Sl} (S : Sim K B σ en F H) (h : RlF K F' H H' v r) : Rl K B σ en F' H' v r := by
  cases r with
  | no => exact h
  | val d => exact h
  | own b xs =>
    obtain ⟨rfl, a, vs, rfl, h1, h2, h3, h4⟩ := h
    refine ⟨rfl, a, vs, rfl, h1, h2, h3, S.kp.free h4, fun z => S.z a z h4, fun i ho e => ?_⟩
    obtain ⟨b, ys, ho⟩ := ho
    obtain ⟨a', vs', e1, e2, _⟩ := S.own i b ys ho
    rw [e] at e1
    cases e1
    rw [h4] at e2
    cases e2
/-- an optional result, in a state -/
def opt (o : Option Sl) (en : En) : R Sl := match o with
  | some r => .ok r en
  | none => .bad
@[simp] theorem opt_some (r : Sl) (en : En) : opt (some r) en = .ok r en := rfl
@[simp] theorem opt_none (en : En) : opt none en = .bad := rfl
theorem Post.opt {K : PySem.W.Frag} {mg : Str → Option Value} {B : Bs} {σ : L2.St} {en : En} {F H : Hp} {Q : VK} {o : Option Sl} (S : Sim K B σ en F H) (p : Post K mg B W σ F (fun r en' F' H' => ∀ v, Rl K B σ en' F' H' v r → Q v H') (Mv.opt o en)) : Kd K F H Q o := by
  cases o with
  | none => exact p.elim
  | some r => exact fun F' H' v g h => p F' H' (S.gr g) g.ff v (S.res h)
theorem Kd.val {K : PySem.W.Frag} {F H : Hp} {Q : VK} {d : D} {v : V} (s : Same F H) (k : Kd K F H Q (some (.val d))) (h : Dp K F v d) : Q v H := k F H v (.refl s) h
theorem Kd.tup {K : PySem.W.Frag} {F H : Hp} {Q : VK} {vs : List V} {ds : List D} (s : Same F H) (k : Kd K F H Q (some (.val (.tuple ds)))) (h : DpAll K F vs ds) : ∀ p, H p = none → Q (.ref p) (upd H p (.tup vs)) := fun p hp =>
  k (upd F p (.tup vs)) (upd H p (.tup vs)) _ (Gr.laid s hp) (.tup (.inl (.inl upd_same)) (dps_mono (same_upd (s.free hp)) h))
theorem Kd.lst {K : PySem.W.Frag} {F H : Hp} {Q : VK} {vs : List V} {ds : List D} (s : Same F H) (k : Kd K F H Q (some (.own false ds))) (h : DpAll K F vs ds) : ∀ p, H p = none → Q (.ref p) (upd H p (.lst vs)) := fun p hp =>
  k F (upd H p (.lst vs)) _ (Gr.made s hp) ⟨rfl, p, vs, rfl, upd_same, s.free hp, h, hp⟩

/-! ### displays -/
def vTup (g : M (List D)) : M Sl := fun en => (g en).bind fun ds e => opt (if ds.length ≤ LIM then some (.val (.tuple ds)) else none) e
def vLst (g : M (List D)) : M Sl := fun en => (g en).bind fun ds e => opt (if ds.length ≤ LIM then some (.own false ds) else none) e
theorem ve_tup {g : M (List D)} {k : Nat} (h : VDs X W es g) : VE X W (.Tuple es k pos) (vTup g) := fun B => peWk (pe_tup (h B)) fun σ H Q ⟨F, en, S, p⟩ => by
  refine ⟨F, en, S, (Post.bind p).imp fun ds en1 F1 H1 S1 s1 q vs rvs => ?_⟩
  have k := Post.opt S1 q
  by_cases hl : ds.length ≤ LIM
  · rw [if_pos hl] at k
    exact ⟨by rw [dps_len rvs]; exact lim_line hl, Kd.tup S1.sub k rvs⟩
  · rw [if_neg hl] at k
    exact k.elim
theorem ve_lst {g : M (List D)} (h : VDs X W es g) : VE X W (.List es pos) (vLst g) := fun B => peWk (pe_lst (h B)) fun σ H Q ⟨F, en, S, p⟩ => by
  refine ⟨F, en, S, (Post.bind p).imp fun ds en1 F1 H1 S1 s1 q vs rvs => ?_⟩
  have k := Post.opt S1 q
  by_cases hl : ds.length ≤ LIM
  · rw [if_pos hl] at k
    exact ⟨by rw [dps_len rvs]; exact lim_line hl, Kd.lst S1.sub k rvs⟩
  · rw [if_neg hl] at k
    exact k.elim

/-! ### operators by values -/
def OV (X : Cx) (f : Value → Value → Sem Value) (o : D → D → Option Sl) : Prop := OpR X f fun x y H Q => ∃ F a b, Same F H ∧ Dp X.K F x a ∧ Dp X.K F y b ∧ Kd X.K F H Q (o a b)
def UV (X : Cx) (f : Value → Sem Value) (o : D → Option Sl) : Prop := UnR X f fun x H Q => ∃ F a, Same F H ∧ Dp X.K F x a ∧ Kd X.K F H Q (o a)
def CV (X : Cx) (f : Value) (o : List D → Option Sl) : Prop := CallR X f fun xs H Q => ∃ F as, Same F H ∧ DpAll X.K F xs as ∧ Kd X.K F H Q (o as)
def IV (X : Cx) (o : D → D → Option Sl) : Prop := IxR X fun x y H Q => ∃ F a b, Same F H ∧ Dp X.K F x a ∧ Dp X.K F y b ∧ Kd X.K F H Q (o a b)
def vOp (o : D → D → Option Sl) (f g : M Sl) : M Sl := fun en => (vD f en).bind fun x e => (vD g e).bind fun y e2 => opt (o x y) e2
def vUn (o : D → Option Sl) (f : M Sl) : M Sl := fun en => (vD f en).bind fun x e => opt (o x) e
def vCb (o : List D → Option Sl) (g : M (List D)) : M Sl := fun en => (g en).bind fun xs e => opt (o xs) e
variable {a b : Expr} {fa fb : M Sl}
theorem rd_op {r : R2} {o : D → D → Option Sl} {B : Bs} (hr : r = fun x y H Q => ∃ F a b, Same F H ∧ Dp X.K F x a ∧ Dp X.K F y b ∧ Kd X.K F H Q (o a b)) :
    ∀ σ H Q, tV X.K X.mg B W (vOp o fa fb) σ H Q → tOp r (tD X.K X.mg B W (vD fa)) (tD X.K X.mg B W (vD fb)) σ H Q := fun σ H Q ⟨F, en, S, p⟩ => by
  refine ⟨F, en, S, (Post.bind p).imp fun d en1 F1 H1 S1 s1 q v rv => ?_⟩
  refine ⟨F1, en1, S1, (Post.bind q).imp fun d2 en2 F2 H2 S2 s2 q2 v2 rv2 => ?_⟩
  rw [hr]
  exact ⟨F2, d, d2, S2.sub, dp_mono s2 rv, rv2, Post.opt S2 q2⟩
theorem ve_bin {op : Operator} {o : D → D → Option Sl} (ho : OV X (binaryOp op) o) (ha : VE X W a fa) (hb : VE X W b fb) : VE X W (.BinOp a op b pos) (vOp o fa fb) := fun B =>
  peWk (pe_op ho (ha.d B) (hb.d B)) (rd_op rfl)
theorem ve_cmp {op : CmpOp} {o : D → D → Option Sl} (ho : OV X (compareOp op) o) (ha : VE X W a fa) (hb : VE X W b fb) (hm : behindInMarks op b = false) : VE X W (.Compare a [op] [b] pos) (vOp o fa fb) := fun B =>
  peWk (pe_cmpR ho (ha.d B) (hb.d B) hm) (rd_op rfl)
theorem ve_ix {o : D → D → Option Sl} (ho : IV X o) (ha : VE X W a fa) (hb : VE X W b fb) (hs : PlainIx b := by exact fun _ _ => rfl) : VE X W (.Subscript a b pos) (vOp o fa fb) := fun B =>
  peWk (pe_ix ho (ha.d B) (hb.d B) hs) (rd_op rfl)
theorem ve_un {op : UnaryOp} {o : D → Option Sl} (ho : UV X (unaryOp op) o) (ha : VE X W a fa) : VE X W (.UnaryOp op a pos) (vUn o fa) := fun B =>
  peWk (pe_un ho (ha.d B)) fun σ H Q ⟨F, en, S, p⟩ => by
    refine ⟨F, en, S, (Post.bind p).imp fun d en1 F1 H1 S1 s1 q v rv => ?_⟩
    exact ⟨F1, d, S1.sub, rv, Post.opt S1 q⟩

/-! ### truth of bools -/
def bOf : D → En → R Bool
  | .bool b, e => .ok b e
  | _, _ => .bad
@[simp] theorem bOf_bool (b : Bool) (e : En) : bOf (.bool b) e = .ok b e := rfl
def vB (f : M Sl) : M Bool := fun en => (vD f en).bind bOf
theorem vb_cmp {op : CmpOp} {o : D → D → Option Sl} (ho : OV X (compareOp op) o) (ha : VE X W a fa) (hb : VE X W b fb) (hm : behindInMarks op b = false) : VB X W (.Compare a [op] [b] pos) (vB (vOp o fa fb)) := fun B =>
  ptWk (pt_cmpR ho (ha.d B) (hb.d B) hm) fun σ H Q ⟨F, en, S, p⟩ => by
    refine rd_op (o := o) rfl σ H _ ⟨F, en, S, ?_⟩
    have p2 : Post X.K X.mg B W σ F (fun b _ _ H' => Q b H') ((vOp o fa fb en).bind fun r e => (frzS r e).bind bOf) := by
      have e : vB (vOp o fa fb) en = (vOp o fa fb en).bind fun r e => (frzS r e).bind bOf := by
        unfold vB vD
        cases vOp o fa fb en <;> rfl
      rw [← e]; exact p
    refine (Post.bind p2).imp fun r en1 F1 H1 S1 s1 q v rv => ?_
    cases r with
    | no => exact rv.elim
    | own b xs =>
      obtain ⟨rfl, _⟩ := rv
      exact q.elim
    | val d =>
      cases d with
      | bool k =>
        cases rv
        exact ⟨k, rfl, q F1 H1 S1 (.refl _)⟩
      | _ => exact q.elim
theorem vb_val (h : VE X W e f) (he : ∀ whole, isTrue e X.env whole = (do let v ← whole; standAt e.pos; holding [v] (truthy v)) := by intro _; rfl) : VB X W e (vB f) := fun B =>
  ptWk (pt_val (h.d B) he) fun σ H Q ⟨F, en, S, p⟩ => by
    refine ⟨F, en, S, (Post.bind p).imp fun d en1 F1 H1 S1 s1 q v rv => ?_⟩
    cases d with
    | bool k =>
      cases rv
      exact ⟨k, rfl, q F1 H1 S1 (.refl _)⟩
    | _ => exact q.elim
/-- and, or, not, if as tests -/
def bAnd (f g : M Bool) : M Bool := fun en => (f en).bind fun b e => if b = true then g e else .ok false e
def bOr (f g : M Bool) : M Bool := fun en => (f en).bind fun b e => if b = true then .ok true e else g e
def bNot (f : M Bool) : M Bool := fun en => (f en).bind fun b e => .ok (!b) e
def VW (X : Cx) (W : WX) (e : Expr) (f : M Bool) : Prop := ∀ B, PW X e (tBl X.K X.mg B W f)
theorem VW.vb {f : M Bool} (h : VW X W e f) : VB X W e f := fun B => (h B).pt
variable {ga gb : M Bool} {rest : List Expr}
theorem vw_and1 (h : VB X W a ga) : VW X W (.BoolOp .And [a] pos) ga := fun B => pw_and1 (h B)
theorem vw_or1 (h : VB X W a ga) : VW X W (.BoolOp .Or [a] pos) ga := fun B => pw_or1 (h B)
theorem vw_and (h : VB X W a ga) (h2 : VW X W (.BoolOp .And (b :: rest) pos) gb) : VW X W (.BoolOp .And (a :: b :: rest) pos) (bAnd ga gb) := fun B =>
  pwWk (pw_and (h B) (h2 B)) fun σ H Q ⟨F, en, S, p⟩ => by
    refine ⟨F, en, S, (Post.bind p).imp fun k en1 F1 H1 S1 s1 q => ?_⟩
    cases k with
    | true => rw [if_pos rfl] at q ⊢; exact ⟨F1, en1, S1, q⟩
    | false => rw [if_neg Bool.false_ne_true] at q ⊢; exact q F1 H1 S1 (.refl _)
theorem vw_or (h : VB X W a ga) (h2 : VW X W (.BoolOp .Or (b :: rest) pos) gb) : VW X W (.BoolOp .Or (a :: b :: rest) pos) (bOr ga gb) := fun B =>
  pwWk (pw_or (h B) (h2 B)) fun σ H Q ⟨F, en, S, p⟩ => by
    refine ⟨F, en, S, (Post.bind p).imp fun k en1 F1 H1 S1 s1 q => ?_⟩
    cases k with
    | true => rw [if_pos rfl] at q ⊢; exact q F1 H1 S1 (.refl _)
    | false => rw [if_neg Bool.false_ne_true] at q ⊢; exact ⟨F1, en1, S1, q⟩
theorem vb_not (h : VB X W a ga) : VB X W (.UnaryOp .Not a pos) (bNot ga) := fun B =>
  ptWk (pt_not (h B)) fun σ H Q ⟨F, en, S, p⟩ => ⟨F, en, S, (Post.bind p).imp fun k en1 F1 H1 S1 s1 q => q F1 H1 S1 (.refl _)⟩
/-- .. as values -/
def vAnd (f g : M Sl) : M Sl := fun en => (vB f en).bind fun b e => if b = true then g e else .ok (.val (.bool false)) e
def vOr (f g : M Sl) : M Sl := fun en => (vB f en).bind fun b e => if b = true then .ok (.val (.bool true)) e else g e
def vNot (f : M Sl) : M Sl := fun en => (vB f en).bind fun b e => .ok (.val (.bool (!b))) e
def vIf (c : M Bool) (f g : M Sl) : M Sl := fun en => (c en).bind fun b e => if b = true then f e else g e
theorem Post.vb {B : Bs} {σ : L2.St} {F : Hp} {en : En} {α : Type} {k : α → En → Hp → Hp → Prop} {g : Bool → En → R α} (p : Post X.K X.mg B W σ F k ((vB f en).bind g)) :
    Post X.K X.mg B W σ F (fun d en1 F1 _ => ∃ c, d = PyData.bool c ∧ Post X.K X.mg B W σ F1 k (g c en1)) (vD f en) := by
  have e : (vB f en).bind g = (vD f en).bind fun d e => (bOf d e).bind g := by
    unfold vB
    cases vD f en <;> rfl
  rw [e] at p
  refine (Post.bind p).imp fun d en1 F1 H1 S1 s1 q => ?_
  cases d with
  | bool c => exact ⟨c, rfl, q⟩
  | _ => exact q.elim
theorem ve_one {op} (h : VE X W a fa) : VE X W (.BoolOp op [a] pos) fa := fun B => pe_one (h B)
theorem ve_and (h : VE X W a fa) (h2 : VE X W (.BoolOp .And (b :: rest) pos) fb) : VE X W (.BoolOp .And (a :: b :: rest) pos) (vAnd fa fb) := fun B =>
  peWk (pe_and (h.d B) (h2 B)) fun σ H Q ⟨F, en, S, p⟩ => by
    refine ⟨F, en, S, (Post.vb p).imp fun d en1 F1 H1 S1 s1 q v rv => ?_⟩
    obtain ⟨c, rfl, q⟩ := q
    cases rv
    refine ⟨c, rfl, ?_⟩
    cases c with
    | true => rw [if_pos rfl] at q ⊢; exact ⟨F1, en1, S1, q⟩
    | false => rw [if_neg Bool.false_ne_true] at q ⊢; exact q F1 H1 S1 (.refl _) _ (.bl false)
theorem ve_not (h : VE X W a fa) : VE X W (.UnaryOp .Not a pos) (vNot fa) := fun B =>
  peWk (pe_not (h.d B)) fun σ H Q ⟨F, en, S, p⟩ => by
    refine ⟨F, en, S, (Post.vb p).imp fun d en1 F1 H1 S1 s1 q v rv => ?_⟩
    obtain ⟨c, rfl, q⟩ := q
    cases rv
    exact ⟨c, rfl, q F1 H1 S1 (.refl _) _ (.bl _)⟩
theorem ve_if {c : Expr} (hc : VB X W c ga) (ha : VE X W a fa) (hb : VE X W b fb) : VE X W (.IfExp c a b pos) (vIf ga fa fb) := fun B =>
  peWk (pe_ifExp (hc B) (ha B) (hb B)) fun σ H Q ⟨F, en, S, p⟩ => by
    refine ⟨F, en, S, (Post.bind p).imp fun k en1 F1 H1 S1 s1 q => ?_⟩
    cases k with
    | true => rw [if_pos rfl] at q ⊢; exact ⟨F1, en1, S1, q⟩
    | false => rw [if_neg Bool.false_ne_true] at q ⊢; exact ⟨F1, en1, S1, q⟩

/-! ### calls of built-ins -/
variable {x : Str} {p : Pos} {id T : String} {o : List D → Option Sl} {g : M (List D)}
theorem rd_cb {B : Bs} : ∀ σ H Q, tV X.K X.mg B W (vCb o g) σ H Q → tCB (fun xs H Q => ∃ F as, Same F H ∧ DpAll X.K F xs as ∧ Kd X.K F H Q (o as)) (tDs X.K X.mg B W g) σ H Q := fun σ H Q ⟨F, en, S, p⟩ =>
  ⟨F, en, S, (Post.bind p).imp fun ds en1 F1 H1 S1 s1 q vs rvs => ⟨F1, ds, S1.sub, rvs, Post.opt S1 q⟩⟩
theorem ve_callB (hc : CV X (.builtin id) o) (hg : Gl X x) (hm : X.mg x = none) (hv : bootBuiltins x = some (.builtin id)) (ha : VDs X W (e :: es) g) (hn : x ≠ "__name__" := by decide) (hdb : (x == ("__debug__" : Str)) = false := by decide)
    (he : starEach (e :: es) X.env = (false, eval e X.env) :: starEach es X.env := by rfl) (hpl : (backTo pos (starEach es X.env)).any (·.1) = false := by rfl) : VE X W (.Call (.Name x p) (e :: es) [] pos) (vCb o g) := fun B =>
  peWk (pe_callB hc hg hm hv (ha B) hn hdb he hpl) rd_cb
theorem ve_callTy (hc : CV X (.type T) o) (hg : Gl X x) (hm : X.mg x = none) (hv : bootBuiltins x = some (.type T)) (ha : VDs X W (e :: es) g) (hn : x ≠ "__name__" := by decide) (hdb : (x == ("__debug__" : Str)) = false := by decide)
    (he : starEach (e :: es) X.env = (false, eval e X.env) :: starEach es X.env := by rfl) (hpl : (backTo pos (starEach es X.env)).any (·.1) = false := by rfl) : VE X W (.Call (.Name x p) (e :: es) [] pos) (vCb o g) := fun B =>
  peWk (pe_callTy hc hg hm hv (ha B) hn hdb he hpl) rd_cb
end
end Mv

namespace Mv
open L2 PySem.Spec PySem PyProof.Rows

/-! ### walks over sources: lists and tuples -/
inductive SrcK where
  | l | t
def srcIs : SrcK → Heap → Addr → Array Value → Prop
  | .l, h, a, items => h.IsList a items
  | .t, h, a, items => h.IsTuple a items
def srcIt : SrcK → Heap → Addr → Addr → Nat → Prop
  | .l, h, it, a, i => h.IsListIter it a i
  | .t, h, it, a, i => h.IsTupleIter it a i
def srcSq (K : PySem.W.Frag) : SrcK → Hp → Addr → List V → Prop
  | .l, H, a, vs => SqL K H a vs
  | .t, H, a, vs => SqT K H a vs
def srcOb : SrcK → Addr → Obj
  | .l, a => { cls := .type "list_iterator", data := .fields #[.ref a, .int 0 0] }
  | .t, a => { cls := .type "tuple_iterator", data := .fields #[.ref a, .int 0 0] }
theorem src_draws {prog : Program} {w : World} {A : Around} (hh : A.handled = none) : ∀ (k : SrcK) (it a : Addr) (hne : a ≠ it) (items : Array Value),
    Draws prog w A it [it, a] items.size (fun i v => items[i]? = some v) (fun i h => srcIt k h it a i ∧ srcIs k h a items)
  | .l, it, a, hne, items => Draws.list hh it a hne items
  | .t, it, a, hne, items => Draws.tuple hh it a hne items
theorem src_begins : ∀ (k : SrcK) (a : Addr) (items : Array Value), Begins (.ref a) (srcOb k a) fun h => srcIs k h a items
  | .l, a, items => begins_list a items
  | .t, a, items => begins_tuple a items
theorem src_new : ∀ (k : SrcK) (h : Heap) (it a : Addr), h.get? it = some (srcOb k a) → srcIt k h it a 0
  | .l, h, it, a, e => ⟨_, e, rfl, rfl⟩
  | .t, h, it, a, e => ⟨_, e, rfl, rfl⟩
theorem src_obj : ∀ {k : SrcK} {h : Heap} {it a : Addr} {i : Nat}, srcIt k h it a i → ∃ o, h.get? it = some o ∧ ∀ v, o.data ≠ .cell v
  | .l, h, it, a, i, ⟨o, e, c, d⟩ => ⟨o, e, fun v z => by rw [d] at z; cases z⟩
  | .t, h, it, a, i, ⟨o, e, c, d⟩ => ⟨o, e, fun v z => by rw [d] at z; cases z⟩
theorem src_keep : ∀ {k : SrcK} {h h' : Heap} {it a : Addr} {i : Nat}, srcIt k h it a i → (∀ o, h.get? it = some o → h'.get? it = some o) → srcIt k h' it a i
  | .l, _, _, _, _, _, st, e => st.at e
  | .t, _, _, _, _, _, st, e => st.at e
theorem src_is {X : Cx} {pins : List (Addr × Obj)} {σ : L2.St} {H : Hp} {s : Shared} (I : Inv X pins σ H s) : ∀ {k : SrcK} {a : Addr} {vs : List V}, srcSq X.K k H a vs →
    ∃ its : List Value, Vals vs its ∧ srcIs k s.heap a its.toArray ∧ a < s.heap.objs.size ∧ vs.length ≤ sizeLine
  | .l, a, vs, q => let ⟨its, r, p, z⟩ := I.list q; ⟨its, r, p.isList, p.lt, z⟩
  | .t, a, vs, q => let ⟨its, r, p, z⟩ := I.tuple q; ⟨its, r, p, p.lt, z⟩
theorem src_mono {K : PySem.W.Frag} {F F' : Hp} (e : Same F F') : ∀ {k : SrcK} {a : Addr} {vs : List V}, srcSq K k F a vs → srcSq K k F' a vs
  | .l, _, _, q => e.seq q
  | .t, _, _, q => sqT_mono e q

/-- what a walk of new tuples yields -/
def ItT (n : Nat) (S : Hp → Prop) (vs : Nat → List V) : It :=
  ⟨fun i H => i < n ∧ S H, fun i H v H' => ∃ T, v = .ref T ∧ H T = none ∧ H' = upd H T (.tup (vs i)), fun i H => i = n ∧ S H⟩
theorem turn_wt {P : Program} {w : World} {K : PySem.W.Frag} {elts : List Expr} {kk : Nat} {tpos : Pos} {I : Addr} {fp wr : List Addr} {n : Nat} {own : Nat → Heap → Prop} {S : Hp → Prop} {vs : Nat → List V}
    (mem : I ∈ fp) (hwr : ∀ b ∈ wr, b ∈ fp) (obj : ∀ i h, own i h → ∀ b ∈ fp, ∃ o, h.get? b = some o ∧ ∀ v, o.data ≠ .cell v) (keep : ∀ i h h', own i h → (∀ b ∈ fp, ∀ o, h.get? b = some o → h'.get? b = some o) → own i h')
    (walk : ∀ (X : Cx), X.prog = P → X.w = w → X.K = K → X.calm = true → ∀ (pins : List (Addr × Obj)) (s : Shared) (σ : L2.St) (H : Hp), Inv X pins σ H s → S H → (∃ i, own i s.heap) →
      ∃ (fp' : List Addr) (Pt : Nat → Array Value → Prop) (St : Nat → Heap → Prop) (Mid : Nat → Addr → Heap → Prop), WalksT P w X.A I fp' wr n Pt St Mid ∧ (∀ i, own i s.heap → St i s.heap) ∧ (∀ i h, St i h → own i h) ∧
        ∀ i vals, i < n → Pt i vals → Vals (vs i) vals.toList ∧ (vs i).length ≤ sizeLine)
    (self : ∀ (A : Around) (i : Nat) (s : Shared) (Q : Value → Shared → Prop) (E : Value → Shared → Prop), own i s.heap → Q (.ref I) s → wpAny (model P w) A (pyIter (.ref I)) Q E s) :
    Turn P w K (.Tuple elts kk tpos) (ItT n S vs) fp I own where
  mem := mem
  obj := obj
  keep := keep
  item := by
    intro X hP hw hK hc i pins s σ H E I0 hf st hg
    obtain ⟨hi, hS⟩ := hg
    obtain ⟨fp', Pt, St, Mid, W, h1, h2, h3⟩ := walk X hP hw hK hc pins s σ H I0 hS ⟨i, st⟩
    subst hP hw hK
    refine W.item i s _ E hi (h1 i st) fun T vals h' tk hPt hT hTu hm hk => ⟨_, rfl, ?_⟩
    refine W.go elts kk tpos i T { s with heap := h', toks := tk } _ E hm fun h'' hst' hk' => ?_
    obtain ⟨rv, hz⟩ := h3 i vals hi hPt
    have hTw := W.apart i T h' hm
    have hTu2 : h''.IsTuple T vals := hTu.at fun o e => hk' T o hTw e
    have new : ObjOk X.prog X.w (upd H T (.tup (vs i))) h'' T (.tup (vs i)) := ⟨hz, vals.toList, rv, show h''.IsTuple T vals.toList.toArray by rw [Array.toArray_toList]; exact hTu2⟩
    have I1 : Inv X pins σ (upd H T (.tup (vs i))) { s with heap := h'', toks := tk } :=
      I0.turnedNew (ch := wr) (fun b o hb e => hk' b o hb (hk b o hb e)) (fun b hb => hf b (hwr b hb)) hT new
    refine ⟨.ref T, _, I1, rfl, ⟨T, rfl, I0.hok.fresh hT, rfl⟩, h2 _ _ hst', fun b hb => ?_⟩
    obtain ⟨o, e, _⟩ := obj i _ st b hb
    rw [upd_ne (Nat.ne_of_lt (Nat.lt_of_lt_of_le (Heap.lt_size e) hT))]
    exact (hf b hb).1
  done := by
    intro X hP hw hK hc i pins s σ H E I0 hf st hg
    obtain ⟨hi, hS⟩ := hg
    subst hi
    obtain ⟨fp', Pt, St, Mid, W, h1, h2, h3⟩ := walk X hP hw hK hc pins s σ H I0 hS ⟨i, st⟩
    subst hP hw hK
    exact W.done s _ E (h1 _ st) fun h' tk hk => ⟨rfl, I0.turnedL (ch := wr) hk fun b hb => hf b (hwr b hb)⟩
  self := self

/-! ### enumerate -/
def enumOb (n : Addr) : Obj := { cls := .type "enumerate", data := .fields #[.none, .bool false, .ref n, rawInt 0, .none, .none] }
def iEnumS (K : PySem.W.Frag) (ta : TA) : TI := fun σ H R => ta σ H fun ws H1 => ∃ (k : SrcK) (a : Addr) (vs : List V), ws = [.ref a] ∧ srcSq K k H1 a vs ∧ R (ItT vs.length (fun H => srcSq K k H a vs) fun i => [.int (i : Nat), vs.getD i .non]) H1
theorem vals_getD {vs : List V} {its : List Value} (r : Vals vs its) {i : Nat} {x : Value} (h : its.toArray[i]? = some x) : RelV (vs.getD i .non) x := by
  have h' : its[i]? = some x := by simpa using h
  have hl := r.length
  have hi : i < vs.length := by
    have := (List.getElem?_eq_some_iff.mp h').1
    omega
  obtain ⟨u, e, ru⟩ := r.get (List.getElem?_eq_getElem hi)
  rw [h'] at e
  cases e
  rw [List.getD_eq_getElem?_getD,
                                                                                                                List.getElem?_eq_getElem hi]
  exact ru
theorem turn_enumS {P : Program} {w : World} {K : PySem.W.Frag} {elts : List Expr} {kk : Nat} {tpos : Pos} {k : SrcK} {a e it : Addr} {vs : List V} (hei : e ≠ it) (hae : a ≠ e) (hai : a ≠ it) :
    Turn P w K (.Tuple elts kk tpos) (ItT vs.length (fun H => srcSq K k H a vs) fun i => [.int (i : Nat), vs.getD i .non]) [e, it] e (fun i h => (∃ old, IsEnum h e it ((0 : Int) + (i : Int)) old) ∧ srcIt k h it a i) := by
  refine turn_wt (wr := [e, it]) (by simp) (fun b hb => hb) (fun i h st b hb => ?_) (fun i h h' st kp => ?_) ?_ (fun A i s Q E st q => let ⟨⟨_, he⟩, _⟩ := st; wpAny_pyIter_enum he q)
  · obtain ⟨⟨old, he⟩, hi⟩ := st
    have e' : b = e ∨
                                                                                                                  b = it := by simpa using hb
    rcases e' with z | z
    · rw [z]; exact ⟨_, he,
                                                                                                                    fun v q => nomatch q⟩
    · rw [z]; exact src_obj hi
  · obtain ⟨⟨old, he⟩, hi⟩ := st
    exact ⟨⟨old, kp e (by simp) _ he⟩, src_keep hi fun o q => kp it (by simp) o q⟩
  · intro X hP hw hK hc pins s σ H I hS _
    subst hP hw hK
    obtain ⟨its, rv, hs, _, _⟩ := src_is I hS
    have hl := rv.length
    have hsz : its.toArray.size = vs.length := by simp [hl]
    have D := src_draws (prog := X.prog) (w := X.w) (A := X.A.in1) (I.ok.hd hc) k it a hai its.toArray
    have W := WalksT.enumFrom 0 D e hei (by simp [hei, Ne.symm hae]) (by simp)
    rw [hsz] at W
    refine ⟨_, _, _, _, W, fun i st => ⟨st.1, st.2, hs⟩, fun i h st => ⟨st.1, st.2.1⟩, fun i vals hi hp => ?_⟩
    obtain ⟨t, x, hx, rfl⟩ := hp
    refine ⟨.cons ⟨t, ?_⟩ (.cons (vals_getD rv hx) .nil), by show 2 ≤ sizeLine; decide⟩
    rw [Int.zero_add]
open AutoSeq1 (wpAny_loadPart') in
set_option maxHeartbeats 1230000 in
theorem enum_one_meets {v : Value} {ob : Obj} {Hs : Heap → Prop} (Bg : Begins v ob Hs) :
    Meets (Builtin.«enumerate.__new__» ⟨[.type "enumerate", v], []⟩) (fun _ Rr sh => Hs sh.heap ∧
      Rr (.ok (.ret (.ref (sh.heap.push ob).objs.size))) { sh with heap := (sh.heap.push ob).push (enumOb sh.heap.objs.size) }) :=
  .of_wp fun prog w A Rr sh hh => by
    obtain ⟨hp, gg, dd, tt, oo⟩ := sh
    obtain ⟨b1, b2⟩ := hh
    have hsub := sub_enumerate
    have itr : ∀ {A' : Around} {E : Value → Shared → Prop} {Q : Value → Shared → Prop}, Q (.ref hp.objs.size) ⟨hp.push ob, gg, dd, tt, oo⟩ → wpAny (model prog w) A' (pyIter v) Q E ⟨hp, gg, dd, tt, oo⟩ :=
      fun qq => Bg.iter prog w _ _ ⟨hp, gg, dd, tt, oo⟩ _ b1 qq
    wp_walk using itr
    refine wpAny_stack_any fun _ => wpAny_pure ?_
    split
    · rename_i cc _ _ _ _ _
      cases (cc == Value.type "enumerate") <;> (wp_walk using itr; exact ⟨_, rfl, b2⟩)
    · wp_walk using itr
      exact ⟨_, rfl, b2⟩
theorem enum_one {prog : Program} {w : World} {A : Around} {E : Value → Shared → Prop} {s : Shared} {v : Value} {ob : Obj} {Hs : Heap → Prop} {Q : Value → Shared → Prop} (Bg : Begins v ob Hs) (h1 : Hs s.heap)
    (q : ∀ h', IsEnum h' (s.heap.objs.size + 1) s.heap.objs.size 0 .none → h'.get? s.heap.objs.size = some ob → (∀ b o, s.heap.get? b = some o → h'.get? b = some o) → Q (.ref (s.heap.objs.size + 1)) { s with heap := h' }) :
    wpAny (model prog w) A (call (.type "enumerate") [v]) Q E s := by
  refine callType_new F.called_enumerate (by decide) (F.typeCall_enumerate_1 _) (F.newCall_enumerate_1 _) (fun _ => F.args_object_init_2 _ _) F.entry_enumerate_new (enum_one_meets Bg) ⟨h1, ?_⟩
  have hz : (s.heap.push ob).objs.size = s.heap.objs.size + 1 := Heap.size_push ..
  show _ ∧ _
  rw [hz]
  have he : IsEnum ((s.heap.push ob).push (enumOb s.heap.objs.size)) (s.heap.objs.size + 1) s.heap.objs.size 0 .none := by
    have := Heap.get?_push_size (s.heap.push ob) (o := enumOb s.heap.objs.size) rfl
    rw [hz] at this; exact this
  exact ⟨⟨_, he, rfl⟩, q _ he (Heap.get?_push_of_some _ (Heap.get?_push_size _ Bg.free)) fun b o x => Heap.get?_push_of_some _ (Heap.get?_push_of_some _ x)⟩
theorem pi_enumS {X : Cx} {e : Expr} {ta : TA} {p pos tpos : Pos} {elts : List Expr} {kk : Nat} (hg : Gl X "enumerate") (hm : X.mg "enumerate" = none) (ha : PA X [e] ta) (hs : starEach [e] X.env = [(false, eval e X.env)] := by rfl) :
    PI X (.Tuple elts kk tpos) (.Call (.Name "enumerate" p) [e] [] pos) (iEnumS X.K ta) := by
  refine ⟨fun pins s σ H R I h =>
                                                                                                                ?_⟩
  refine Call_ (ld_blt I hg hm boot_enumerate (PyProof.Rows.callWith_type1 (thn (ha.run pos pins s σ H _ I h) fun us s1 ⟨ws, H1, I1, r1, q1⟩ => ?_) hs rfl))
  obtain ⟨k, a, vs, rfl, hq, q⟩ := q1
  cases r1 with
  | cons r rr =>
    cases rr
    cases r
    obtain ⟨its, rv, hsrc, hlt, hz⟩ := src_is I1 hq
    refine enum_one (src_begins k a its.toArray) hsrc fun h' he hob hk => wpAny_pyIter_enum he ?_
    have I2 : Inv X pins σ H1 { s1 with
                                                                                                                  heap := h' } := I1.kept (t' := s1.toks) hk
    have ne1 : a ≠ s1.heap.objs.size + 1 := Nat.ne_of_lt (Nat.lt_succ_of_lt hlt)
    have ne0 : a ≠ s1.heap.objs.size := Nat.ne_of_lt hlt
    refine ⟨s1.heap.objs.size + 1, [s1.heap.objs.size + 1, s1.heap.objs.size], _, _, H1, rfl, I2, turn_enumS (k := k) (a := a) (it := s1.heap.objs.size) (Nat.succ_ne_self _) ne1 ne0, ⟨⟨.none, by simpa using he⟩, src_new k h' _ a hob⟩, fun b hb => ?_, q⟩
    have hle :
                                                                                                                  s1.heap.objs.size ≤ b := by
      have e' : b = s1.heap.objs.size + 1 ∨
                                                                                                                    b = s1.heap.objs.size := by simpa using hb
      rcases e' with z | z <;> rw [z]
      · exact Nat.le_succ _
      · exact Nat.le_refl _
    exact I1.fpOk hle
                                                                                                                  (I1.hok.fresh hle)

/-! ### zip of two -/
def iZipS (K : PySem.W.Frag) (ta : TA) : TI := fun σ H R => ta σ H fun ws H1 => ∃ (k1 k2 : SrcK) (a b : Addr) (vs us : List V), ws = [.ref a, .ref b] ∧ srcSq K k1 H1 a vs ∧ srcSq K k2 H1 b us ∧
  R (ItT (min vs.length us.length) (fun H => srcSq K k1 H a vs ∧ srcSq K k2 H b us) fun i => [vs.getD i .non, us.getD i .non]) H1
theorem turn_zipS {P : Program} {w : World} {K : PySem.W.Frag} {elts : List Expr} {kk : Nat} {tpos : Pos} {k1 k2 : SrcK} {a b z TI TO i1 i2 : Addr} {vs us : List V} (Sp : ZipSep2 z TI TO i1 i2 [i1, a] [i2, b]) (na : a ≠ i1) (nb : b ≠ i2) :
    Turn P w K (.Tuple elts kk tpos) (ItT (min vs.length us.length) (fun H => srcSq K k1 H a vs ∧ srcSq K k2 H b us) fun i => [vs.getD i .non, us.getD i .non]) [z, TI, TO, i1, i2] z
      (fun i h => IsZip h z TI TO .none ∧ IsTupOf2 h TI (.ref i1) (.ref i2) ∧ (∃ x y, IsTupOf2 h TO x y) ∧ srcIt k1 h i1 a i ∧ srcIt k2 h i2 b i) := by
  refine turn_wt (wr := [z, TO, i1, i2]) (by simp) (fun c hc => ?_) (fun i h st c hc => ?_) (fun i h h' st kp => ?_) ?_ (fun A i s Q E st q => wpAny_pyIter_zip st.1 q)
  · have e' : c = z ∨ c = TO ∨ c = i1 ∨ c = i2 := by simpa using hc
    rcases e' with rfl | rfl | rfl | rfl <;> simp
  · obtain ⟨hz, hTI, ⟨x, y, hTO⟩, s1, s2⟩ := st
    have e' : c = z ∨ c = TI ∨ c = TO ∨
                                                                                                                  c = i1 ∨ c = i2 := by simpa using hc
    rcases e' with q | q | q | q | q <;> rw [q]
    · exact ⟨_, hz, fun v q => nomatch q⟩
    · exact ⟨_, hTI, fun v q => nomatch q⟩
    · exact ⟨_, hTO, fun v q => nomatch q⟩
    · exact src_obj s1
    · exact src_obj s2
  · obtain ⟨hz, hTI, ⟨x, y, hTO⟩, s1, s2⟩ := st
    exact ⟨kp z (by simp) _ hz, kp TI (by simp) _ hTI, ⟨x, y, kp TO (by simp) _ hTO⟩, src_keep s1 fun o q => kp i1 (by simp) o q, src_keep s2 fun o q => kp i2 (by simp) o q⟩
  · intro X hP hw hK hc pins s σ H I hS _
    subst hP hw hK
    obtain ⟨its, rv, hs, _, _⟩ := src_is I hS.1
    obtain ⟨jts, rw', hs2, _, _⟩ := src_is I hS.2
    have hl := rv.length
    have hl2 := rw'.length
    have D1 := src_draws (prog := X.prog) (w := X.w) (A := X.A.in1) (I.ok.hd hc) k1 i1 a na its.toArray
    have D2 := src_draws (prog := X.prog) (w := X.w) (A := X.A.in1) (I.ok.hd hc) k2 i2 b nb jts.toArray
    have W := WalksT.zipD2 Sp D1 D2
    rw [show min its.toArray.size jts.toArray.size = min vs.length us.length by simp [hl, hl2]] at W
    refine ⟨_, _, _, _, W, fun i st => ⟨st.1, st.2.1, st.2.2.1, ⟨st.2.2.2.1, hs⟩, ⟨st.2.2.2.2, hs2⟩⟩, fun i h st => ⟨st.1, st.2.1, st.2.2.1, st.2.2.2.1.1, st.2.2.2.2.1⟩, fun i vals hi hp => ?_⟩
    obtain ⟨x1, x2, hx1, hx2, rfl⟩ := hp
    exact ⟨.cons (vals_getD rv hx1) (.cons (vals_getD rw' hx2) .nil), by show 2 ≤ sizeLine; decide⟩
theorem pi_zipS {X : Cx} {e e2 : Expr} {ta : TA} {p pos tpos : Pos} {elts : List Expr} {kk : Nat} (hg : Gl X "zip") (hm : X.mg "zip" = none) (ha : PA X [e, e2] ta)
    (hs : starEach [e, e2] X.env = (false, eval e X.env) :: starEach [e2] X.env :=
                                                                                                                  by rfl) (hpl : (backTo pos (starEach [e2] X.env)).any (·.1) = false := by rfl) :
    PI X (.Tuple elts kk tpos) (.Call (.Name "zip" p) [e, e2] [] pos) (iZipS X.K ta) := by
  refine ⟨fun pins s σ H R I h =>
                                                                                                                ?_⟩
  refine Call_ (ld_blt I hg hm PyProof.Rows.boot_zip (PyProof.Rows.callWith_type1 (thn (ha.run pos pins s σ H _ I h) fun us s1 ⟨ws, H1, I1, r1, q1⟩ => ?_) hs hpl))
  obtain ⟨k1, k2, a, b, vs, ys, rfl, hq, hq2, q⟩ := q1
  cases r1 with
  | cons r rr =>
    cases rr with
    | cons r' rr =>
      cases rr
      cases r
      cases r'
      obtain ⟨its, rv, hsrc, hlt, hz⟩ := src_is I1 hq
      obtain ⟨jts, rv2, hsrc2, hlt2, hz2⟩ := src_is I1 hq2
      refine zip_begins2 (src_begins k1 a its.toArray) (src_begins k2 b jts.toArray) hsrc hsrc2 fun h' hz hTI hTO ho1 ho2 _ hk => wpAny_pyIter_zip hz ?_
      have I2 : Inv X pins σ H1 { s1 with
                                                                                                                    heap := h' } := I1.kept (t' := s1.toks) hk
      have sep := zip_sep2 (N := s1.heap.objs.size) (fp1 := [a]) (fp2 := [b]) (by simpa using hlt) (by simpa using hlt2)
      refine ⟨s1.heap.objs.size + 4, [s1.heap.objs.size + 4, s1.heap.objs.size + 2, s1.heap.objs.size + 3, s1.heap.objs.size, s1.heap.objs.size + 1], _, _, H1, rfl, I2,
        turn_zipS (k1 := k1) (k2 := k2) sep (Nat.ne_of_lt hlt) (Nat.ne_of_lt (Nat.lt_succ_of_lt hlt2)), ⟨hz, hTI, ⟨_, _, hTO⟩, src_new k1 h' _ a ho1, src_new k2 h' _ b ho2⟩, fun c hc => ?_, q⟩
      have hle :
                                                                                                                    s1.heap.objs.size ≤ c := by
        have e' : c = s1.heap.objs.size + 4 ∨ c = s1.heap.objs.size + 2 ∨ c = s1.heap.objs.size + 3 ∨ c = s1.heap.objs.size ∨ c = s1.heap.objs.size + 1 := by simpa using hc
        rcases e' with z | z | z | z | z <;> rw [z] <;> first | exact Nat.le_add_right _ _ | exact Nat.le_refl _
      exact I1.fpOk hle
                                                                                                                    (I1.hok.fresh hle)
end Mv

namespace Mv
open L2 PySem.Spec PySem PyProof.Rows

/-! ### what is walked, by values -/
/-- Fk: what is kept beside what is frozen -/
def Wk (K : PySem.W.Frag) (Fk F : Hp) (J : It) (ds : List D) : Prop := ∃ G Y, Walk J ds.length G Y ∧ (∀ F1 H, Same F F1 → Same F1 H → Same Fk H → G H) ∧
  ∀ i F1 H x H', i < ds.length → Same F F1 → Same F1 H → Same Fk H → Y i H x H' → ∃ F', Gr F1 H F' H' ∧ ∃ d, ds[i]? = some d ∧ Dp K F' x d
def tI (K : PySem.W.Frag) (mg : Str → Option Value) (B : Bs) (W : WX) (f : M (List D)) : TI := fun σ H R => ∃ F en, Sim K B σ en F H ∧ Post K mg B W σ F (fun ds _ F' H' => ∀ J, Wk K B.Kp F' J ds → R J H') (f en)
def VI (X : Cx) (W : WX) (tg e : Expr) (f : M (List D)) : Prop := ∀ B, PI X tg e (tI X.K X.mg B W f)
section
variable {K : PySem.W.Frag} {F Fk : Hp}
theorem wk_list {a : Addr} {vs : List V} {ds : List D} (q : SqL K F a vs) (r : DpAll K F vs ds) : Wk K Fk F (Itl K a) ds := by
  have hl := dps_len r
  refine ⟨_, _, by rw [← hl]; exact walk_list (xs := vs), fun F1 H s1 s2 _ => (s1.trans s2).seq q, fun i F1 H x H' hi s1 s2 _ y => ?_⟩
  obtain ⟨rfl, e⟩ := y
  exact ⟨F1, .refl s2, _, List.getElem?_eq_getElem hi, dp_mono s1 (dps_get r e (List.getElem?_eq_getElem hi))⟩
theorem wk_tup {a : Addr} {vs : List V} {ds : List D} (q : SqT K F a vs) (r : DpAll K F vs ds) : Wk K Fk F (Itt K a) ds := by
  have hl := dps_len r
  refine ⟨_, _, by rw [← hl]; exact walk_tup (xs := vs), fun F1 H s1 s2 _ => sqT_mono (s1.trans s2) q, fun i F1 H x H' hi s1 s2 _ y => ?_⟩
  obtain ⟨rfl, e⟩ := y
  exact ⟨F1, .refl s2, _, List.getElem?_eq_getElem hi, dp_mono s1 (dps_get r e (List.getElem?_eq_getElem hi))⟩
def chars (z : Str) : List D := z.cps.toList.map fun c => .str ⟨#[c]⟩
theorem wk_str {z : Str} : Wk K Fk F (Its z) (chars z) := by
  have hl : (chars z).length = z.cps.size := by simp [chars]
  refine ⟨_, _, by rw [hl]; exact walk_str, fun _ _ _ _ _ => trivial, fun i F1 H x H' hi s1 s2 _ y => ?_⟩
  obtain ⟨rfl, c, e, rfl⟩ := y
  exact ⟨F1, .refl s2, .str ⟨#[c]⟩, by simp [chars, e], .str _⟩
def rngD (lo : Int) (n : Nat) : List D := (List.range n).map fun k => .int (lo + (k : Nat))
theorem wk_rng {lo : Int} {n : Nat} : Wk K Fk F (Itr lo n) (rngD lo n) := by
  have hl : (rngD lo n).length = n := by simp [rngD]
  refine ⟨_, _, by rw [hl]; exact walk_range, fun _ _ _ _ _ => trivial, fun i F1 H x H' hi s1 s2 _ y => ?_⟩
  obtain ⟨rfl, rfl⟩ := y
  rw [hl] at hi
  exact ⟨F1, .refl s2, .int (lo + i), by simp [rngD, hi], .int _⟩
theorem wk_itT {n : Nat} {S : Hp → Prop} {vs : Nat → List V} {ds : List D} (hn : ds.length = n) (hS : ∀ F1 H, Same F F1 → Same F1 H → Same Fk H → S H) (h : ∀ i, i < n → ∃ es, ds[i]? = some (.tuple es) ∧ DpAll K F (vs i) es) : Wk K Fk F (ItT n S vs) ds := by
  subst hn
  refine ⟨S, _, ⟨fun i H hi q => ⟨hi, q⟩, fun H q => ⟨rfl, q⟩, fun i H x H' hi q y => y⟩, hS, fun i F1 H x H' hi s1 s2 _ y => ?_⟩
  obtain ⟨T, rfl, hT, rfl⟩ := y
  obtain ⟨es, e1, e2⟩ := h i hi
  have s3 : Same F (upd F1 T (.tup (vs i))) := s1.trans (same_upd (s2.free hT))
  exact ⟨_, Gr.laid s2 hT, _, e1, .tup (.inl (.inl upd_same)) (dps_mono s3 e2)⟩
end

def itemsOf : D → En → R (List D)
  | .list ds, e => .ok ds e
  | .tuple ds, e => .ok ds e
  | .str z, e => .ok (chars z) e
  | _, _ => .bad
@[simp] theorem itemsOf_list (ds : List D) (e : En) : itemsOf (.list ds) e = .ok ds e := rfl
@[simp] theorem itemsOf_tuple (ds : List D) (e : En) : itemsOf (.tuple ds) e = .ok ds e := rfl
@[simp] theorem itemsOf_str (z : Str) (e : En) : itemsOf (.str z) e = .ok (chars z) e := rfl
def vItems (f : M Sl) : M (List D) := fun en => (vD f en).bind itemsOf
section
variable {X : Cx} {W : WX} {tg e : Expr} {f : M Sl}
def iSeq (K : PySem.W.Frag) (tl : TE) : TI := fun σ H R => tl σ H fun x H1 => (∃ a vs, x = .ref a ∧ SqL K H1 a vs ∧ R (Itl K a) H1) ∨ (∃ a vs, x = .ref a ∧ SqT K H1 a vs ∧ R (Itt K a) H1) ∨ ∃ z, x = .str z ∧ R (Its z) H1
theorem pi_seq {tl : TE} (hl : PE X e tl) : PI X tg e (iSeq X.K tl) := by
  refine ⟨fun pins s σ H R I h => thn (hl.run pins s σ H _ I h) fun v s1 ⟨x, H1, I1, r1, q1⟩ => ?_⟩
  rcases q1 with ⟨a, vs, rfl, hq, q⟩ | ⟨a, vs, rfl, hq, q⟩ | ⟨z, rfl, q⟩
  · cases r1
    obtain ⟨its, rv,
                                                                                                                  p, hz⟩ := I1.list hq
    exact wpAny_pyIter_list p.isList (pi_one (tk := s1.toks) I1 _ (turn_list a _) ⟨_, Heap.get?_push_size _ rfl, rfl, rfl⟩ q)
  · cases r1
    obtain ⟨its, rv, p,
                                                                                                                  hz⟩ := I1.tuple hq
    exact wpAny_pyIter_tuple (show s1.heap.IsTuple a its.toArray from p) (pi_one (tk := s1.toks) I1 _ (turn_tuple a _) ⟨_, Heap.get?_push_size _ rfl, rfl, rfl⟩ q)
  · obtain ⟨t, rfl⟩ := r1
    cases ha : z.cps.all (· < 128)
    · exact wpAny_pyIter_wide ha (pi_one (tk := s1.toks) I1 _ (turn_str _ z t _ (.inr rfl)) ⟨_, Heap.get?_push_size _ rfl, rfl, rfl⟩ q)
    · exact wpAny_pyIter_ascii ha (pi_one (tk := s1.toks) I1 _ (turn_str _ z t _ (.inl rfl)) ⟨_, Heap.get?_push_size _ rfl, rfl, rfl⟩ q)
theorem vi_seq (h : VE X W e f) : VI X W tg e (vItems f) := fun B => piWk (pi_seq (h.d B)) fun σ H R ⟨F, en, S, p⟩ => by
  refine ⟨F, en, S, (Post.bind p).imp fun d en1 F1 H1 S1 s1 q v rv => ?_⟩
  cases d with
  | list ds =>
    cases rv with
    | lst h1 h2 => exact .inl ⟨_, _, rfl, S1.sub.seq (.inl h1), q F1 H1 S1 (.refl _) _ (wk_list (.inl h1) h2)⟩
  | tuple ds =>
    cases rv with
    | tup h1 h2 => exact .inr (.inl ⟨_, _, rfl, sqT_mono S1.sub h1, q F1 H1 S1 (.refl _) _ (wk_tup h1 h2)⟩)
  | str z =>
    cases rv
    exact .inr (.inr ⟨z, rfl, q F1 H1 S1 (.refl _) _ wk_str⟩)
  | _ => exact q.elim
variable {a b : Expr} {g : M (List D)} {p pos : Pos}
/-- a lower end below makes an empty range as well -/
theorem vi_range1 (hg : Gl X "range") (hm : X.mg "range" = none) (ha : VDs X W [a] g) (hs : starEach [a] X.env = [(false, eval a X.env)] := by rfl) : VI X W tg (.Call (.Name "range" p) [a] [] pos) (fun en => (g en).bind fun ds e => match ds with
    | [.int j] => if j.natAbs < 1000000000 then .ok (rngD 0 j.toNat) e else .bad
    | _ => .bad) := fun B => piWk (pi_range1 hg hm (ha B) hs) fun σ H R ⟨F, en, S, p⟩ => by
  refine ⟨F, en, S, (Post.bind p).imp fun ds en1 F1 H1 S1 s1 q vs rv => ?_⟩
  split at q
  · rename_i j
    cases rv with
    | cons r rr =>
      cases rr
      cases r
      split at q
      · rename_i hj
        exact ⟨j, rfl, by omega, by omega, q F1 H1 S1 (.refl _) _ wk_rng⟩
      · exact q.elim
  · exact q.elim
end
/-- what enumerate and zip take: a list or a tuple -/
def seqOf : D → Option (List D)
  | .list ds => some ds
  | .tuple ds => some ds
  | _ => none
theorem src_of {K : PySem.W.Frag} {F : Hp} {x : V} {d : D} {ds : List D} (r : Dp K F x d) (h : seqOf d = some ds) : ∃ (k : SrcK) (a : Addr) (vs : List V), x = .ref a ∧ srcSq K k F a vs ∧ DpAll K F vs ds := by
  cases d with
  | list es =>
    cases h
    cases r with
    | lst h1 h2 => exact ⟨.l, _, _, rfl, .inl h1, h2⟩
  | tuple es =>
    cases h
    cases r with
    | tup h1 h2 => exact ⟨.t, _, _, rfl, h1, h2⟩
  | _ => cases h
def enumD (ds : List D) : List D := ds.mapIdx fun i d => .tuple [.int (i : Nat), d]
def zipD (ds es : List D) : List D := List.zipWith (fun a b => .tuple [a, b]) ds es
theorem dps_getD {K : PySem.W.Frag} {F : Hp} {vs : List V} {ds : List D} (r : DpAll K F vs ds) {i : Nat} {d : D} (h : ds[i]? = some d) : Dp K F (vs.getD i .non) d := by
  have hl := dps_len r
  have hi : i < vs.length := by rw [hl]; exact (List.getElem?_eq_some_iff.mp h).1
  have e : vs[i]? = some (vs.getD i .non) := by rw [List.getD_eq_getElem?_getD, List.getElem?_eq_getElem hi]; rfl
  exact dps_get r e h
section
variable {X : Cx} {W : WX} {a b : Expr} {g : M (List D)} {p pos tpos : Pos} {elts : List Expr} {kk : Nat}
theorem vi_enum (hg : Gl X "enumerate") (hm : X.mg "enumerate" = none) (ha : VDs X W [a] g) (hs : starEach [a] X.env = [(false, eval a X.env)] := by rfl) : VI X W (.Tuple elts kk tpos) (.Call (.Name "enumerate" p) [a] [] pos) (fun en => (g en).bind fun ds e =>
    match ds with
    | [d] => match seqOf d with
      | some es => .ok (enumD es) e
      | none => .bad
    | _ => .bad) := fun B => piWk (pi_enumS hg hm (ha B) hs) fun σ H R ⟨F, en, S, p⟩ => by
  refine ⟨F, en, S, (Post.bind p).imp fun ds en1 F1 H1 S1 s1 q vs rv => ?_⟩
  split at q
  · rename_i d
    cases rv with
    | cons r rr =>
      cases rr
      cases hd : seqOf d with
      | none => rw [hd] at q; exact q.elim
      | some es =>
        rw [hd] at q
        obtain ⟨k, c, us, rfl, h1, h2⟩ := src_of r hd
        refine ⟨k, c, us, rfl, src_mono S1.sub h1, q F1 H1 S1 (.refl _) _ (wk_itT (by rw [dps_len h2]; simp [enumD]) (fun F2 H2 z1 z2 _ => src_mono (z1.trans z2) h1) fun i hi => ?_)⟩
        rw [dps_len h2] at hi
        exact ⟨[.int (i : Nat), es[i]], by simp [enumD, hi], .cons (.int _) (dps_one (dps_getD h2 (List.getElem?_eq_getElem hi)))⟩
  · exact q.elim
theorem vi_zip (hg : Gl X "zip") (hm : X.mg "zip" = none) (ha : VDs X W [a, b] g) (hs : starEach [a, b] X.env = (false, eval a X.env) :: starEach [b] X.env := by rfl) (hpl : (backTo pos (starEach [b] X.env)).any (·.1) = false := by rfl) :
    VI X W (.Tuple elts kk tpos) (.Call (.Name "zip" p) [a, b] [] pos) (fun en => (g en).bind fun ds e =>
    match ds with
    | [d, d2] => match seqOf d, seqOf d2 with
      | some es, some es2 => .ok (zipD es es2) e
      | _, _ => .bad
    | _ => .bad) := fun B => piWk (pi_zipS hg hm (ha B) hs hpl) fun σ H R ⟨F, en, S, p⟩ => by
  refine ⟨F, en, S, (Post.bind p).imp fun ds en1 F1 H1 S1 s1 q vs rv => ?_⟩
  split at q
  · rename_i d d2
    cases rv with
    | cons r rr =>
      cases rr with
      | cons r' rr =>
        cases rr
        split at q
        · rename_i es es2 hd hd2
          obtain ⟨k, c, us, rfl, h1, h2⟩ := src_of r hd
          obtain ⟨k2, c2, us2, rfl, h3, h4⟩ := src_of r' hd2
          refine ⟨k, k2, c, c2, us, us2, rfl, src_mono S1.sub h1, src_mono S1.sub h3, q F1 H1 S1 (.refl _) _ (wk_itT (by rw [dps_len h2, dps_len h4]; simp [zipD]) (fun F2 H2 z1 z2 _ => ⟨src_mono (z1.trans z2) h1, src_mono (z1.trans z2) h3⟩) fun i hi => ?_)⟩
          rw [dps_len h2, dps_len h4] at hi
          have hi1 : i < es.length := by omega
          have hi2 : i < es2.length := by omega
          exact ⟨[es[i], es2[i]], by simp [zipD, List.getElem?_zipWith, hi1, hi2], .cons (dps_getD h2 (List.getElem?_eq_getElem hi1)) (dps_one (dps_getD h4 (List.getElem?_eq_getElem hi2)))⟩
        · exact q.elim
  · exact q.elim
end

/-! ### targets -/
def tG (K : PySem.W.Frag) (B : Bs) (vs : List Nat) (g : D → En → Option En) : TG := fun v σ H Q => ∃ F en d, Sim K B σ en F H ∧ Dp K F v d ∧ ∃ en', g d en = some en' ∧ ∀ σ', Sim K B σ' en' F H → wipe σ' vs = wipe σ vs → Q σ' H
def tGs (K : PySem.W.Frag) (B : Bs) (vs : List Nat) (g : List D → En → Option En) : TGs := fun us σ H Q => ∃ F en ds, Sim K B σ en F H ∧ DpAll K F us ds ∧ ∃ en', g ds en = some en' ∧ ∀ σ', Sim K B σ' en' F H → wipe σ' vs = wipe σ vs → Q σ' H
def VG (X : Cx) (e : Expr) (vs : List Nat) (g : D → En → Option En) : Prop := ∀ B, PG X e (tG X.K B vs g)
def VGs (X : Cx) (es : List Expr) (vs : List Nat) (g : List D → En → Option En) : Prop := ∀ B, PGs X es (tGs X.K B vs g)
theorem wipe_set {σ : L2.St} {i : Nat} {x : Option V} : ∀ {vs : List Nat}, i ∈ vs → wipe (σ.set i x) vs = wipe σ vs
  | v :: vs, h => by
    unfold wipe
    by_cases e : i = v
    · subst e
      by_cases h2 : i ∈ vs
      · rw [wipe_set h2]
      · have : ∀ us : List Nat, i ∉ us → wipe (σ.set i x) us = (wipe σ us).set i x := by
          intro us hu
          induction us with
          | nil => rfl
          | cons u us ih =>
            unfold wipe
            rw [ih (fun z => hu (List.mem_cons_of_mem _ z)), List.set_comm _ _ (fun z => hu (by simp [z]))]
        rw [this vs h2, List.set_set]
    · rw [wipe_set ((List.mem_cons.mp h).resolve_left e)]
def pNm (i : Nat) : D → En → Option En := fun d en => some (en.set i (.val d))
def pNil : List D → En → Option En
  | [], en => some en
  | _, _ => none
def pCons (g : D → En → Option En) (h : List D → En → Option En) : List D → En → Option En
  | d :: ds, en => (g d en).bind (h ds)
  | [], _ => none
def pTup (h : List D → En → Option En) : D → En → Option En
  | .tuple ds, en => h ds en
  | _, _ => none
section
variable {X : Cx} {pos : Pos} {vs : List Nat} {e : Expr} {es : List Expr} {g : D → En → Option En} {h : List D → En → Option En}
theorem pgWk {t t' : TG} (k : PG X e t) (w : ∀ v σ H Q, t' v σ H Q → t v σ H Q) : PG X e t' := ⟨fun pins s σ H v u Q I r q => k.run pins s σ H v u Q I r (w _ _ _ _ q)⟩
theorem pgsWk {t t' : TGs} (k : PGs X es t) (w : ∀ v σ H Q, t' v σ H Q → t v σ H Q) : PGs X es t' := ⟨fun pins s σ H v u Q I r q => k.run pins s σ H v u Q I r (w _ _ _ _ q)⟩
theorem vg_nm {i : Nat} {x : Str} (hN : X.N.Nodup) (hi : X.N[i]? = some x := by rfl) (hx : Loc X.env.scope x := by first | exact Or.inl rfl | exact Or.inr rfl) (hv : i ∈ vs := by decide)
    (hf : X.fn x = true ∨ X.env.scope.names.lookup x = some .local := by first | exact .inl rfl | exact .inr rfl) : VG X (.Name x pos) vs (pNm i) := fun B => pgWk (pg_name hN hi hx hf) fun v σ H Q ⟨F, en, d, S, r, en', e1, q⟩ => by
  cases e1
  exact q _ (S.store (s := .val d) r) (wipe_set hv)
theorem vgs_nil : VGs X [] vs pNil := fun B => pgsWk pgs_nil fun us σ H Q ⟨F, en, ds, S, r, en', e1, q⟩ => by
  cases ds with
  | nil =>
    cases r
    cases e1
    exact ⟨rfl, q σ S rfl⟩
  | cons d ds => cases e1
theorem vgs_cons (h1 : VG X e vs g) (h2 : VGs X es vs h) (hs : (assignEach (e :: es) X.env).map (·.2) = assign e X.env :: (assignEach es X.env).map (·.2) := by rfl) : VGs X (e :: es) vs (pCons g h) := fun B =>
  pgsWk (pgs_cons (h1 B) (h2 B) hs) fun us σ H Q ⟨F, en, ds, S, r, en', e1, q⟩ => by
    cases ds with
    | nil => cases e1
    | cons d ds =>
      cases r with
      | cons r rr =>
        obtain ⟨en1, g1, g2⟩ := Option.bind_eq_some_iff.mp e1
        exact ⟨_, _, rfl, F, en, d, S, r, en1, g1, fun σ1 S1 w1 => ⟨F, en1, ds, S1, rr, en', g2, fun σ2 S2 w2 => q σ2 S2 (w2.trans w1)⟩⟩
theorem vg_tup {k : Nat} (hc : X.calm = true) (hh : VGs X es vs h) {n : Nat} (hlen : ∀ ds en en', h ds en = some en' → ds.length = n) (hn : (assignEach es X.env).length = n := by rfl)
    (hst : (assignEach es X.env).findIdx? (·.1) = none := by rfl) : VG X (.Tuple es k pos) vs (pTup h) := fun B => pgWk (pg_tup hc (hh B) hn hst) fun v σ H Q ⟨F, en, d, S, r, en', e1, q⟩ => by
  cases d with
  | tuple ds =>
    cases r with
    | tup r1 r2 => exact ⟨_, _, rfl, sqT_mono S.sub r1, (dps_len r2).trans (hlen _ _ _ e1), F, en, ds, S, r2, en', e1, q⟩
  | _ => cases e1
theorem pNil_len (ds : List D) (en en' : En) (h : pNil ds en = some en') : ds.length = 0 := by
  cases ds with
  | nil => rfl
  | cons _ _ => cases h
theorem pCons_len {n : Nat} (hh : ∀ ds en en', h ds en = some en' → ds.length = n) (ds : List D) (en en' : En) (e : pCons g h ds en = some en') : ds.length = n + 1 := by
  cases ds with
  | nil => cases e
  | cons d ds =>
    obtain ⟨en1, g1, g2⟩ := Option.bind_eq_some_iff.mp e
    rw [List.length_cons, hh _ _ _ g2]
end
end Mv

namespace Mv
open L2 PySem.Spec PySem PyProof.Rows

inductive Fl where
  | nx
  | rt (r : Sl)
  | bk
  | ct
abbrev MS := En → R Fl
section
variable {K : PySem.W.Frag} {mg : Str → Option Value} {B : Bs} {W : WX} {F F1 : Hp}
def PostS (K : PySem.W.Frag) (mg : Str → Option Value) (B : Bs) (W : WX) (F : Hp) (Dn : Ends) : R Fl → Prop
  | .ok .nx en' => ∀ σ' F' H', Sim K B σ' en' F' H' → Same F F' → Dn.nx σ' H'
  | .ok (.rt r) en' => ∀ σ' F' H' v, Sim K B σ' en' F' H' → Same F F' → Rl K B σ' en' F' H' v r → Dn.rt v H'
  | .ok .bk en' => ∀ σ' F' H', Sim K B σ' en' F' H' → Same F F' → Dn.bk σ' H'
  | .ok .ct en' => ∀ σ' F' H', Sim K B σ' en' F' H' → Same F F' → Dn.ct σ' H'
  | .exc c fs en' => ∀ σ' F' H' cls d, Sim K B σ' en' F' H' → Same F F' → RX K mg F' H' c fs cls d → W cls d σ' H'
  | .bad => False
theorem PostS.up {Dn : Ends} {r : R Fl} (p : PostS K mg B W F Dn r) (s : Same F F1) : PostS K mg B W F1 Dn r := by
  cases r with
  | ok a e =>
    cases a with
    | nx => exact fun σ' F' H' S q => p σ' F' H' S (s.trans q)
    | rt r => exact fun σ' F' H' v S q => p σ' F' H' v S (s.trans q)
    | bk => exact fun σ' F' H' S q => p σ' F' H' S (s.trans q)
    | ct => exact fun σ' F' H' S q => p σ' F' H' S (s.trans q)
  | exc c fs e => exact fun σ' F' H' cls d S q => p σ' F' H' cls d S (s.trans q)
  | bad => exact p
/-- an expression, then a statement's end -/
theorem PostS.bind {α : Type} {σ : L2.St} {Dn : Ends} {r : R α} {g : α → En → R Fl} (p : PostS K mg B W F Dn (r.bind g)) : Post K mg B W σ F (fun a en1 F1 _ => PostS K mg B W F1 Dn (g a en1)) r := by
  cases r with
  | ok a e => exact fun F' H' S q => PostS.up p q
  | exc c fs e => exact fun F' H' cls d S q => p σ F' H' cls d S q
  | bad => exact p
def tS (K : PySem.W.Frag) (mg : Str → Option Value) (B : Bs) (W : WX) (g : MS) : TS := fun Dn σ H => ∃ F en, Sim K B σ en F H ∧ PostS K mg B W F Dn (g en)
end
def VS (X : Cx) (W : WX) (st : Stmt) (g : MS) : Prop := ∀ B, PS X st (tS X.K X.mg B W g)
def VSs (X : Cx) (W : WX) (st : List Stmt) (g : MS) : Prop := ∀ B, PSs X st (tS X.K X.mg B W g)

def sNil : MS := fun en => .ok .nx en
def sSeq (g h : MS) : MS := fun en => match g en with
  | .ok .nx e => h e
  | r => r
section
variable {X : Cx} {W : WX} {st : Stmt} {rest : List Stmt} {g h : MS} {pos : Pos} {e : Expr} {f : M Sl}
theorem vss_nil : VSs X W [] sNil := fun B => pssWk pss_nil fun Dn σ H ⟨F, en, S, p⟩ => p σ F H S (.refl _)
theorem vss_cons (h1 : VS X W st g) (h2 : VSs X W rest h) : VSs X W (st :: rest) (sSeq g h) := fun B => pssWk (pss_cons (h1 B) (h2 B)) fun Dn σ H ⟨F, en, S, p⟩ => by
  refine ⟨F, en, S, ?_⟩
  unfold sSeq at p
  cases hg : g en with
  | ok a e =>
    rw [hg] at p
    cases a with
    | nx => exact fun σ' F' H' S' s' => ⟨F', e, S', p.up s'⟩
    | rt r => exact p
    | bk => exact p
    | ct => exact p
  | exc c fs e => rw [hg] at p; exact p
  | bad => rw [hg] at p; exact p
theorem vss_one (h1 : VS X W st g) : VSs X W [st] g := fun B => pss_one (h1 B)
def sSet (i : Nat) (f : M Sl) : MS := fun en => (f en).bind fun r e => .ok .nx (e.set i r)
theorem rd_set {B : Bs} (i : Nat) : ∀ Dn σ H, tS X.K X.mg B W (sSet i f) Dn σ H → tAsg (tV X.K X.mg B W f) (gName i) Dn σ H := fun Dn σ H ⟨F, en, S, p⟩ =>
  ⟨F, en, S, (PostS.bind p).imp fun r en1 F1 H1 S1 s1 q v rv => q _ F1 H1 (S1.store rv) (.refl _)⟩
theorem vs_set {i : Nat} {x : Str} {pos' : Pos} (hN : X.N.Nodup) (he : VE X W e f) (hi : X.N[i]? = some x := by rfl) (hx : Loc X.env.scope x := by first | exact Or.inl rfl | exact Or.inr rfl) (hs : swapsWith e (some (.Name x pos')) pos.line X.env = pure false := by rfl)
    (hf : X.fn x = true ∨ X.env.scope.names.lookup x = some .local := by first | exact .inl rfl | exact .inr rfl) : VS X W (.Assign [.Name x pos'] e pos) (sSet i f) := fun B =>
  psWk (ps_set hN hi hx (he B) hs hf) (rd_set i)
def sRet (f : M Sl) : MS := fun en => (f en).bind fun r e => .ok (.rt r) e
theorem vs_ret (he : VE X W e f) : VS X W (.Return (some e) pos) (sRet f) := fun B => psWk (ps_ret (he B)) fun Dn σ H ⟨F, en, S, p⟩ =>
  ⟨F, en, S, (PostS.bind p).imp fun r en1 F1 H1 S1 s1 q v rv => q σ F1 H1 v S1 (.refl _) rv⟩
theorem Sim.forget {K : PySem.W.Frag} {B : Bs} {σ : L2.St} {en : En} {F H : Hp} (S : Sim K B σ en F H) (i : Nat) : Sim K B σ (en.set i .no) F H := by
  have key : ∀ j s, (en.set i .no)[j]? = some s → s = .no ∨ (j ≠ i ∧ en[j]? = some s) := fun j s hj => by
    rw [List.getElem?_set] at hj
    by_cases e : i = j
    · rw [if_pos e] at hj
      split at hj
      · exact .inl (Option.some.inj hj).symm
      · cases hj
    · rw [if_neg e] at hj
      exact .inr ⟨fun z => e z.symm, hj⟩
  refine ⟨by rw [List.length_set]; exact S.len, S.sub, S.f0, S.new, S.kp, S.z, fun j d hj => ?_, fun j b xs hj => ?_, fun j k a hjk hj hk => ?_⟩
  · rcases key j _ hj with z | ⟨_, z⟩
    · cases z
    · exact S.val j d z
  · rcases key j _ hj with z | ⟨_, z⟩
    · cases z
    · exact S.own j b xs z
  · obtain ⟨b, xs, hj⟩ := hj
    obtain ⟨b2, xs2, hk⟩ := hk
    rcases key j _ hj with z | ⟨_, z⟩
    · cases z
    · rcases key k _ hk with z2 | ⟨_, z2⟩
      · cases z2
      · exact S.apart j k a hjk ⟨_, _, z⟩ ⟨_, _, z2⟩
/-- return of a name: an own list is handed on as it is -/
def sRetV (i : Nat) : MS := fun en => match en[i]? with
  | some (.val d) => .ok (.rt (.val d)) en
  | some (.own false xs) => .ok (.rt (.own false xs)) (en.set i .no)
  | _ => .bad
theorem vs_retv (i : Nat) {x : Str} {p : Pos} (hN : X.N[i]? = some x := by rfl) (hv : Vis X.env.scope x := by first | exact Or.inl rfl | exact Or.inr (Or.inl rfl) | exact Or.inr (Or.inr rfl)) (hd : (x == ("__debug__" : Str)) = false := by decide)
    (hcd : (x == ("__classdict__" : Str)) = false := by decide) : VS X W (.Return (some (.Name x p)) pos) (sRetV i) := fun B => psWk (ps_ret (pe_var hN hv hd hcd)) fun Dn σ H ⟨F, en, S, p⟩ => by
  unfold sRetV at p
  split at p
  · rename_i d hh
    obtain ⟨v, h1, h2⟩ := S.val i d hh
    exact ⟨v, h1, p σ F H v S (.refl _) h2⟩
  · rename_i xs hh
    obtain ⟨a, vs, h1, h2, h3, h4, h5, h6, _⟩ := S.own i _ xs hh
    refine ⟨_, h1, p σ F H _ (S.forget i) (.refl _) ⟨rfl, a, vs, rfl, h2, h3, h4, h5, h6 rfl, fun j hj e => ?_⟩⟩
    rcases isOwn_set hj with ⟨_, _, _, z⟩ | ⟨hji, hj⟩
    · cases z
    · exact S.apart i j a (Ne.symm hji) (isOwn_out hh) hj h1 e
  · exact p.elim
def sIf (c : M Bool) (g h : MS) : MS := fun en => (c en).bind fun b e => if b = true then g e else h e
theorem vs_if {c : Expr} {a b : List Stmt} {t : M Bool} (hc : VB X W c t) (ha : VSs X W a g) (hb : VSs X W b h) : VS X W (.If c a b pos) (sIf t g h) := fun B => psWk (ps_if (hc B) (ha B) (hb B)) fun Dn σ H ⟨F, en, S, p⟩ => by
  refine ⟨F, en, S, (PostS.bind p).imp fun k en1 F1 H1 S1 s1 q => ?_⟩
  cases k with
  | true => rw [if_pos rfl] at q ⊢; exact ⟨F1, en1, S1, q⟩
  | false => rw [if_neg Bool.false_ne_true] at q ⊢; exact ⟨F1, en1, S1, q⟩
/-- pattern = value -/
def sAsg (pat : D → En → Option En) (f : M Sl) : MS := fun en => (vD f en).bind fun d e => match pat d e with
  | some e2 => .ok .nx e2
  | none => .bad
theorem vs_asg {tg : Expr} {vs : List Nat} {pat : D → En → Option En} (he : VE X W e f) (hg : VG X tg vs pat) (hs : swapsWithSole [tg] e pos.line X.env = pure false := by rfl) (hw : swappedStores [tg] e X.env = pure none := by rfl)
    (h1 : (assignEach [tg] X.env).map (·.2) = [assign tg X.env] := by rfl) : VS X W (.Assign [tg] e pos) (sAsg pat f) := fun B => psWk (ps_asg (he.d B) (hg B) hs hw h1) fun Dn σ H ⟨F, en, S, p⟩ => by
  refine ⟨F, en, S, (PostS.bind p).imp fun d en1 F1 H1 S1 s1 q v rv => ?_⟩
  cases hp : pat d en1 with
  | none => rw [hp] at q; exact q.elim
  | some e2 =>
    rw [hp] at q
    exact ⟨F1, en1, d, S1, rv, e2, hp, fun σ' S' _ => q σ' F1 H1 S' (.refl _)⟩

/-! ### loops -/
def forL (pat : D → En → Option En) (body : MS) : List D → MS
  | [], e => .ok .nx e
  | d :: ds, e => match pat d e with
    | none => .bad
    | some e1 => match body e1 with
      | .ok .nx e2 => forL pat body ds e2
      | .ok .ct e2 => forL pat body ds e2
      | .ok .bk e2 => .ok .nx e2
      | .ok (.rt r) e2 => .ok (.rt r) e2
      | .exc c fs e2 => .exc c fs e2
      | .bad => .bad
def sFor (it : M (List D)) (pat : D → En → Option En) (body : MS) : MS := fun en => (it en).bind fun xs e => forL pat body xs e
theorem vs_for {tg iter : Expr} {body : List Stmt} {it : M (List D)} {pat : D → En → Option En} {vs : List Nat} {gb : MS} (hc : X.calm = true) (hp : PassesOwn (model X.prog X.w) X.A X.env X.xe) (hi : VI X W tg iter it) (hg : VG X tg vs pat) (hb : VSs X W body gb)
    (hs : ∀ x, foldedSetIterable iter X.env x = pure x := by intro _; rfl) : VS X W (.For tg iter body [] pos) (sFor it pat gb) := fun B => psWk (ps_for hp hc (hi B) (hg B) (hb B) hs) fun Dn σ H ⟨F, en, S, p⟩ => by
  refine ⟨F, en, S, (PostS.bind p).imp fun xs en1 F1 H1 S1 s1 q J wk => ?_⟩
  obtain ⟨G, Y, wlk, hG, hY⟩ := wk
  refine for_it wlk (fun i σ2 H2 => ∃ F2 en2, Sim X.K B σ2 en2 F2 H2 ∧ Same F1 F2 ∧ PostS X.K X.mg B W F2 Dn (forL pat gb (xs.drop i) en2)) ⟨F1, en1, S1, .refl _, q⟩ (fun i σ2 H2 _ ⟨F2, en2, S2, z, _⟩ => hG F2 H2 z S2.sub S2.kp) (fun i x σ2 H2 H3 hi pv y => ?_) fun σ2 H2 pv => ?_
  · obtain ⟨F2, en2, S2, z, q2⟩ := pv
    obtain ⟨F3, gr, d, hd, dv⟩ := hY i F2 H2 x H3 hi z S2.sub S2.kp y
    have e1 : xs.drop i = d :: xs.drop (i + 1) := by
      rw [List.drop_eq_getElem_cons hi]
      rw [List.getElem?_eq_getElem hi] at hd
      rw [Option.some.inj hd]
    rw [e1] at q2
    unfold forL at q2
    have S3 := S2.gr gr
    have z3 := z.trans gr.ff
    have q3 := q2.up gr.ff
    cases hpt : pat d en2 with
    | none => rw [hpt] at q3; exact q3.elim
    | some e3 =>
      rw [hpt] at q3
      refine ⟨F3, en2, d, S3, dv, e3, hpt, fun σ4 S4 _ => ⟨F3, e3, S4, ?_⟩⟩
      dsimp only at q3
      cases hb : gb e3 with
      | ok a e4 =>
        rw [hb] at q3
        cases a with
        | nx => exact fun σ5 F5 H5 S5 s5 => ⟨F5, e4, S5, z3.trans s5, q3.up s5⟩
        | ct => exact fun σ5 F5 H5 S5 s5 => ⟨F5, e4, S5, z3.trans s5, q3.up s5⟩
        | bk => exact q3
        | rt r => exact q3
      | exc c fs e4 => rw [hb] at q3; exact q3
      | bad => rw [hb] at q3; exact q3
  · obtain ⟨F2, en2, S2, z, q2⟩ := pv
    rw [List.drop_length] at q2
    exact q2 σ2 F2 H2 S2 (.refl _)
def whileL (c : M Bool) (body : MS) : Nat → MS
  | 0, _ => .bad
  | n + 1, e => (c e).bind fun b e1 => if b = true then (match body e1 with
      | .ok .nx e2 => whileL c body n e2
      | .ok .ct e2 => whileL c body n e2
      | .ok .bk e2 => .ok .nx e2
      | .ok (.rt r) e2 => .ok (.rt r) e2
      | .exc c fs e2 => .exc c fs e2
      | .bad => .bad) else .ok .nx e1
theorem vs_while {c : Expr} {body : List Stmt} {t : M Bool} {gb : MS} (n : Nat) (hp : PassesOwn (model X.prog X.w) X.A X.env X.xe) (hc : VB X W c t) (hb : VSs X W body gb) : VS X W (.While c body [] pos) (whileL t gb n) := fun B =>
  psWk (ps_while hp (hc B) (hb B)) fun Dn σ H ⟨F, en, S, p⟩ => by
    refine ⟨fun m σ2 H2 => ∃ F2 en2, Sim X.K B σ2 en2 F2 H2 ∧ PostS X.K X.mg B W F2 Dn (whileL t gb m en2), ⟨n, F, en, S, p⟩, fun m σ2 H2 ⟨F2, en2, S2, q2⟩ => ?_⟩
    cases m with
    | zero => exact q2.elim
    | succ m =>
      refine ⟨F2, en2, S2, (PostS.bind q2).imp fun b en3 F3 H3 S3 s3 q3 => ?_⟩
      cases b with
      | false =>
        rw [if_neg Bool.false_ne_true] at q3 ⊢
        exact q3 σ2 F3 H3 S3 (.refl _)
      | true =>
        rw [if_pos rfl] at q3 ⊢
        refine ⟨fun σ4 H4 => ∃ F4 en4, Sim X.K B σ4 en4 F4 H4 ∧ PostS X.K X.mg B W F4 Dn (whileL t gb m en4), fun σ4 H4 h4 => ⟨m, Nat.lt_succ_self _, h4⟩, F3, en3, S3, ?_⟩
        cases hb : gb en3 with
        | ok a e4 =>
          rw [hb] at q3
          cases a with
          | nx => exact fun σ5 F5 H5 S5 s5 => ⟨F5, e4, S5, q3.up s5⟩
          | ct => exact fun σ5 F5 H5 S5 s5 => ⟨F5, e4, S5, q3.up s5⟩
          | bk => exact q3
          | rt r => exact q3
        | exc c fs e4 => rw [hb] at q3; exact q3
        | bad => rw [hb] at q3; exact q3

/-! ### own lists changed -/
/-- the own list in a slot, with its address -/
theorem Sim.slotL {K : PySem.W.Frag} {B : Bs} {σ : L2.St} {en : En} {F H : Hp} {i : Nat} {b : Bool} {xs : List D} (S : Sim K B σ en F H) (h : en[i]? = some (.own b xs)) : ∃ a vs, σ[i]? = some (some (.ref a)) ∧ H a = some (.lst vs) ∧ DpAll K F vs xs ∧ vs.length = xs.length :=
  let ⟨a, vs, h1, h2, _, h4, _⟩ := S.own i b xs h
  ⟨a, vs, h1, h2, h4, dps_len h4⟩
def ownAt (i : Nat) (e : En) (k : Bool → List D → R Fl) : R Fl := match e[i]? with
  | some (.own b xs) => k b xs
  | _ => .bad
variable {a : Expr} {fa fb : M Sl} {x : Str} {p apos cpos : Pos}
/-- x.append(e) -/
def sApp (i : Nat) (f : M Sl) : MS := fun en => ownAt i en fun _ _ => (vD f en).bind fun d e => ownAt i e fun b xs => if xs.length < LIM then .ok .nx (e.set i (.own b (xs ++ [d]))) else .bad
theorem vs_app {i : Nat} (he : VE X W e f) (hN : X.N[i]? = some x := by rfl) (hv : Vis X.env.scope x := by first | exact Or.inl rfl | exact Or.inr (Or.inl rfl)) (hd : (x == ("__debug__" : Str)) = false := by decide)
    (hcd : (x == ("__classdict__" : Str)) = false := by decide) (hbase : attributeBase (.Name x p) "append" X.env (eval (.Name x p) X.env) = eval (.Name x p) X.env := by rfl)
    (hfew : ((backTo cpos (starEach [e] X.env)).all (fun x => !x.1) && (backToKw cpos (keywordEach [] X.env)).all (fun x => x.1.isSome) && decide ([e].length + ([] : List Keyword).length + (if ([] : List Keyword).isEmpty then 0 else 1) < 30)) = true := by rfl)
    (hline : (apos.endLine == cpos.line) = true := by rfl) (hst : starEach [e] X.env = (false, eval e X.env) :: starEach [] X.env := by rfl) (hsw : swapsWith (.Call (.Attribute (.Name x p) "append" apos) [e] [] cpos) none pos.line X.env = pure false := by rfl) :
    VS X W (.Expr (.Call (.Attribute (.Name x p) "append" apos) [e] [] cpos) pos) (sApp i f) := fun B =>
  psWk (ps_expr (pe_bm PySem.F.plainAttrs_list PySem.F.slot_list_append PySem.F.type_list_append mt_append (pe_var hN hv hd hcd) (pa_cons (he.d B) pa_nil hst) hbase hfew hline hst) hsw) fun Dn σ H ⟨F, en, S, q⟩ => by
    unfold sApp ownAt at q
    split at q
    · rename_i b0 xs0 h0
      obtain ⟨a0, vs0, e0, l0, _, _⟩ := S.slotL h0
      refine ⟨_, e0, .inl ⟨rfl, vs0, .inl (.inl l0)⟩, F, en, S, (PostS.bind q).imp fun d en1 F1 H1 S1 s1 q1 v rv => ?_⟩
      split at q1
      · rename_i b xs h1
        obtain ⟨a1, vs, e1, l1, r1, len⟩ := S1.slotL h1
        rw [e0] at e1
        cases e1
        dsimp only at q1
        split at q1
        · rename_i hl
          refine ⟨_, vs, v, rfl, rfl, l1, by rw [len]; exact lim_lt (Nat.le_of_lt hl), ?_⟩
          exact q1 σ F1 _ (S1.change h1 e0 l1 (dps_app r1 (dps_one rv))) (.refl _)
        · exact q1.elim
      · exact q1.elim
    · exact q.elim
/-- x.insert(k, e) -/
def sIns (i : Nat) (g : M (List D)) : MS := fun en => ownAt i en fun _ _ => (g en).bind fun ds e => ownAt i e fun b xs => match ds with
  | [.int k, d] => if xs.length < LIM ∧ 0 ≤ k ∧ k < 1000000000 then .ok .nx (e.set i (.own b (xs.take k.toNat ++ [d] ++ xs.drop k.toNat))) else .bad
  | _ => .bad
/-- x[k] = e -/
def setAt (i : Nat) (k : D) (d : D) (e : En) : R Fl := ownAt i e fun b xs => match k with
  | .int k => match ixN xs.length k with
    | some j => .ok .nx (e.set i (.own b (xs.set j d)))
    | none => .bad
  | _ => .bad
def sStore (i : Nat) (fk f : M Sl) : MS := fun en => (vD f en).bind fun d e => ownAt i e fun _ _ => (vD fk e).bind fun k e2 => setAt i k d e2
theorem setAt_ok {K : PySem.W.Frag} {mg : Str → Option Value} {B : Bs} {σ : L2.St} {en : En} {F H : Hp} {Dn : Ends} {i : Nat} {k d : D} {y v : V} (S : Sim K B σ en F H) (rk : Dp K F y k) (rd : Dp K F v d) (p : PostS K mg B W F Dn (setAt i k d en)) :
    ∃ a, σ[i]? = some (some (.ref a)) ∧ rSetL (.ref a) y v H (fun H' => Dn.nx σ H') := by
  unfold setAt ownAt at p
  split at p
  · rename_i b xs h1
    obtain ⟨a1, vs, e1, l1, r1, len⟩ := S.slotL h1
    dsimp only at p
    split at p
    · rename_i z
      split at p
      · rename_i j hj
        cases rk
        exact ⟨a1, e1, a1, vs, z, j, rfl, rfl, l1, by rw [len]; exact hj, p σ F _ (S.change h1 e1 l1 (dps_set rd j r1)) (.refl _)⟩
      · exact p.elim
    · exact p.elim
  · exact p.elim
theorem vs_store {i : Nat} {ek : Expr} {p2 : Pos} (he : VE X W e f) (hk : VE X W ek fa) (hN : X.N[i]? = some x := by rfl) (hv : Vis X.env.scope x := by first | exact Or.inl rfl | exact Or.inr (Or.inl rfl)) (hd : (x == ("__debug__" : Str)) = false := by decide)
    (hcd : (x == ("__classdict__" : Str)) = false := by decide)
    (ha : ∀ v, assign (.Subscript (.Name x p) ek p2) X.env v = (do
      let ov ← holding [v] (eval (.Name x p) X.env)
      let iv ← holding [v, ov] (eval ek X.env)
      standAt p2
      holding [v, ov,
                                                                                                                    iv] (setItem ov iv v)
      release [v, ov, iv] []) := by intro _; rfl)
    (hs : swapsWithSole [.Subscript (.Name x p) ek p2] e pos.line X.env = pure false := by rfl) (hw : swappedStores [.Subscript (.Name x p) ek p2] e X.env = pure none := by rfl)
    (h1 : (assignEach [.Subscript (.Name x p) ek p2] X.env).map (·.2) = [assign (.Subscript (.Name x p) ek p2) X.env] := by rfl) :
    VS X W (.Assign [.Subscript (.Name x p) ek p2] e pos) (sStore i fa f) := fun B =>
  psWk (ps_asg (he.d B) (pg_sub (pe_var hN hv hd hcd) (hk.d B) set_list ha) hs hw h1) fun Dn σ H ⟨F, en, S, q⟩ => by
    refine ⟨F, en, S, (PostS.bind q).imp fun d en1 F1 H1 S1 s1 q1 v rv => ?_⟩
    unfold ownAt at q1
    split at q1
    · rename_i b0 xs0 h0
      obtain ⟨a0, vs0, e0, _⟩ := S1.slotL h0
      refine ⟨_, e0, F1, en1, S1, (PostS.bind q1).imp fun k en2 F2 H2 S2 s2 q2 y ry => ?_⟩
      obtain ⟨a, e1, z⟩ := setAt_ok S2 ry (dp_mono s2 rv) q2
      rw [e0] at e1
      cases e1
      exact z
    · exact q1.elim
end
end Mv

namespace Mv
open L2 PySem.Spec PySem PyProof.Rows

/-! ### list comprehensions -/
def W0 : WX := fun _ _ _ _ => False
def noX {α : Type} : R α → R α
  | .ok a e => .ok a e
  | _ => .bad
@[simp] theorem noX_ok {α : Type} (a : α) (e : En) : noX (.ok a e) = .ok a e := rfl
def wipeE (en : En) : List Nat → En
  | [] => en
  | v :: vs => (wipeE en vs).set v .no
/-- the entries at vs as they stood in e -/
def backE (E e : En) : List Nat → En
  | [] => E
  | v :: vs => (backE E e vs).set v (e.getD v .no)
def noOwn (e : En) : List Nat → Bool
  | [] => true
  | v :: vs => (match e[v]? with | some (.own _ _) => false | _ => true) && noOwn e vs
theorem noOwn_ok {e : En} : ∀ {vs : List Nat}, noOwn e vs = true → ∀ i ∈ vs, ¬ isOwn e i
  | v :: vs, h, i, hi, ⟨b, xs, ho⟩ => by
    simp only [noOwn, Bool.and_eq_true] at h
    rcases List.mem_cons.mp hi with rfl | hi
    · rw [ho] at h; exact absurd h.1 (by simp)
    · exact noOwn_ok h.2 i hi ⟨b, xs, ho⟩
theorem wipeE_len (e : En) : ∀ vs : List Nat, (wipeE e vs).length = e.length
  | [] => rfl
  | v :: vs => by unfold wipeE; rw [List.length_set, wipeE_len e vs]
theorem backE_len (E e : En) : ∀ vs : List Nat, (backE E e vs).length = E.length
  | [] => rfl
  | v :: vs => by unfold backE; rw [List.length_set, backE_len E e vs]
theorem wipeE_get {e : En} {i : Nat} : ∀ {vs : List Nat}, i ∉ vs → (wipeE e vs)[i]? = e[i]?
  | [], _ => rfl
  | v :: vs, h => by
    unfold wipeE
    rw [List.getElem?_set_ne (fun z => h (by simp [z])), wipeE_get (fun z => h (List.mem_cons_of_mem _ z))]
theorem wipeE_at {e : En} {i : Nat} {s : Sl} : ∀ {vs : List Nat}, i ∈ vs → (wipeE e vs)[i]? = some s → s = .no
  | v :: vs, h, hs => by
    unfold wipeE at hs
    rw [List.getElem?_set] at hs
    by_cases e' : v = i
    · rw [if_pos e'] at hs
      split at hs
      · exact (Option.some.inj hs).symm
      · cases hs
    · rw [if_neg e'] at hs
      exact wipeE_at ((List.mem_cons.mp h).resolve_left (Ne.symm e')) hs
theorem backE_get {E e : En} {i : Nat} : ∀ {vs : List Nat}, i ∉ vs → (backE E e vs)[i]? = E[i]?
  | [], _ => rfl
  | v :: vs, h => by
    unfold backE
    rw [List.getElem?_set_ne (fun z => h (by simp [z])), backE_get (fun z => h (List.mem_cons_of_mem _ z))]
theorem backE_at {E e : En} {i : Nat} {s : Sl} : ∀ {vs : List Nat}, i ∈ vs → (backE E e vs)[i]? = some s → s = e.getD i .no
  | v :: vs, h, hs => by
    unfold backE at hs
    rw [List.getElem?_set] at hs
    by_cases e' : v = i
    · rw [if_pos e'] at hs
      split at hs
      · rw [← e']; exact (Option.some.inj hs).symm
      · cases hs
    · rw [if_neg e'] at hs
      exact backE_at ((List.mem_cons.mp h).resolve_left (Ne.symm e')) hs
theorem wipe_getN {σ : L2.St} {i : Nat} : ∀ {vs : List Nat}, i ∉ vs → (wipe σ vs)[i]? = σ[i]?
  | [], _ => rfl
  | v :: vs, h => by
    unfold wipe
    rw [List.getElem?_set_ne (fun z => h (by simp [z])), wipe_getN (fun z => h (List.mem_cons_of_mem _ z))]

theorem wipe_at2 {σ : L2.St} {i : Nat} : ∀ {vs : List Nat}, i ∈ vs → (wipe σ vs)[i]? = if i < σ.length then some none else none
  | v :: vs, h => by
    unfold wipe
    rw [List.getElem?_set]
    by_cases e' : v = i
    · subst e'; rw [if_pos rfl, wipe_length]
    · rw [if_neg e']
      exact wipe_at2 ((List.mem_cons.mp h).resolve_left (Ne.symm e'))
theorem wipe_wipe (σ : L2.St) (vs : List Nat) : wipe (wipe σ vs) vs = wipe σ vs := by
  refine List.ext_getElem? fun i => ?_
  by_cases h : i ∈ vs
  · rw [wipe_at2 h, wipe_at2 h, wipe_length]
  · rw [wipe_getN h]
/-- a further thing that is to be kept: the list that a comprehension makes, or a list handed on -/
def Bs.more (B : Bs) (F : Hp) (a : Addr) (vs : List V) : Bs := ⟨F, upd B.Kp a (.lst vs), fun c => B.Z c ∨ c = a, B.io⟩
section
variable {K : PySem.W.Frag} {B : Bs} {σ : L2.St} {en : En} {F F0 H : Hp} {a : Addr} {us : List V}
theorem Sim.under (S : Sim K B σ en F H) (h0 : Same F0 F) (h0n : ∀ c o, F c = some o → F0 c = some o ∨ (¬ B.Z c ∧ c ≠ a)) (h1 : H a = some (.lst us)) (h3 : ∀ i, isOwn en i → σ[i]? ≠ some (some (.ref a))) : Sim K (B.more F0 a us) σ en F H := by
  refine ⟨S.len, S.sub, h0, fun c o e => ?_, fun c o e => ?_, fun c z e => ?_, S.val, fun i b xs e => ?_, S.apart⟩
  · rcases h0n c o e with q | ⟨q1, q2⟩
    · exact .inl q
    · exact .inr fun z => z.elim q1 q2
  · have e' : upd B.Kp a (.lst us) c = some o := e
    by_cases hc : c = a
    · subst hc; rw [upd_same] at e'; cases e'; exact h1
    · rw [upd_ne hc] at e'; exact S.kp _ _ e'
  · rcases z with z | z
    · exact S.z c z e
    · rw [z, h1] at e; cases e
  · obtain ⟨c, vs, e1, e2, e3, e4, e5, e6, e7⟩ := S.own i b xs e
    have hca : c ≠ a := fun z => h3 i ⟨_, _, e⟩ (z ▸ e1)
    refine ⟨c, vs, e1, e2, e3, e4, ?_, fun hb z => ?_, e7⟩
    · show upd B.Kp a (.lst us) c = none
      rw [upd_ne hca]; exact e5
    · exact z.elim (e6 hb) hca
/-- out of it again -/
theorem Sim.outer (S : Sim K (B.more F0 a us) σ en F H) (h0 : Same B.F F0) (h0n : ∀ c o, F0 c = some o → B.F c = some o ∨ ¬ B.Z c) (hk : B.Kp a = none) (h0a : F0 a = none) :
    Sim K B σ en F H ∧ H a = some (.lst us) ∧ F a = none ∧ (∀ i, isOwn en i → σ[i]? ≠ some (some (.ref a))) := by
  have ow : ∀ (i : Nat) (b : Bool) (xs : List D), en[i]? = some (Sl.own b xs) → ∃ (c : Addr) (vs : List V), σ[i]? = some (some (V.ref c)) ∧ H c = some (.lst vs) ∧ F c = none ∧ DpAll K F vs xs ∧ (B.Kp c = none ∧ c ≠ a) ∧ (b = false → ¬ B.Z c) ∧ (b = true → B.io c) := fun i b xs e => by
    obtain ⟨c, vs, e1, e2, e3, e4, e5, e6, e7⟩ := S.own i b xs e
    have e5' : upd B.Kp a (.lst us) c = none := e5
    have hca : c ≠ a := fun z => by rw [z, upd_same] at e5'; cases e5'
    rw [upd_ne hca] at e5'
    exact ⟨c, vs, e1, e2, e3, e4, ⟨e5', hca⟩, fun hb z => e6 hb (.inl z), e7⟩
  refine ⟨⟨S.len, S.sub, h0.trans S.f0, fun c o e => ?_, fun c o e => ?_, fun c z => S.z c (.inl z), S.val, fun i b xs e => ?_, S.apart⟩, ?_, ?_, fun i hi e => ?_⟩
  · rcases S.new c o e with q | q
    · exact h0n c o q
    · exact .inr fun z => q (.inl z)
  · exact S.kp c o (show upd B.Kp a (.lst us) c = some o by rw [upd_ne (fun z => by rw [z, hk] at e; cases e)]; exact e)
  · obtain ⟨c, vs, e1, e2, e3, e4, e5, e6⟩ := ow i b xs e
    exact ⟨c, vs, e1, e2, e3, e4, e5.1, e6⟩
  · exact S.kp a _ (show upd B.Kp a (.lst us) a = _ from upd_same)
  · cases q : F a with
    | none => rfl
    | some o =>
      rcases S.new a o q with z | z
      · have z' : F0 a = some o := z
        rw [h0a] at z'; cases z'
      · exact absurd (.inr rfl) z
  · obtain ⟨b, xs, hi⟩ := hi
    obtain ⟨c, vs, e1, _, _, _, e5, _⟩ := ow i b xs hi
    rw [e] at e1; cases e1
    exact e5.2 rfl
theorem Sim.wiped (S : Sim K B σ en F H) (vs : List Nat) : Sim K B (wipe σ vs) (wipeE en vs) F H := by
  have key : ∀ j s, (wipeE en vs)[j]? = some s → s = .no ∨ (j ∉ vs ∧ en[j]? = some s) := fun j s h => by
    by_cases hj : j ∈ vs
    · exact .inl (wipeE_at hj h)
    · exact .inr ⟨hj, by rw [wipeE_get hj] at h; exact h⟩
  refine ⟨by rw [wipe_length, wipeE_len]; exact S.len, S.sub, S.f0, S.new, S.kp, S.z, fun j d h => ?_, fun j b xs h => ?_, fun j k c hjk hj hk e1 e2 => ?_⟩
  · rcases key j _ h with z | ⟨n, z⟩
    · cases z
    · obtain ⟨v, q⟩ := S.val j d z
      exact ⟨v, by rw [wipe_getN n]; exact q.1, q.2⟩
  · rcases key j _ h with z | ⟨n, z⟩
    · cases z
    · obtain ⟨c, ws, q⟩ := S.own j b xs z
      exact ⟨c, ws, by rw [wipe_getN n]; exact q.1, q.2⟩
  · obtain ⟨b, xs, hj⟩ := hj
    obtain ⟨b2, xs2, hk⟩ := hk
    rcases key j _ hj with z | ⟨n, z⟩
    · cases z
    · rcases key k _ hk with z2 | ⟨n2, z2⟩
      · cases z2
      · rw [wipe_getN n] at e1
        rw [wipe_getN n2] at e2
        exact S.apart j k c hjk ⟨_, _, z⟩ ⟨_, _, z2⟩ e1 e2
theorem Sim.back {E : En} {vs : List Nat} (S : Sim K B (wipe σ vs) E F H) (hl : σ.length = en.length) (ho : ∀ i ∈ vs, ¬ isOwn en i) (hv : ∀ i ∈ vs, ∀ d, en[i]? = some (.val d) → ∃ v, σ[i]? = some (some v) ∧ Dp K F v d) : Sim K B σ (backE E en vs) F H := by
  have key : ∀ j s, (backE E en vs)[j]? = some s → (j ∈ vs ∧ s = en.getD j .no) ∨ (j ∉ vs ∧ E[j]? = some s) := fun j s h => by
    by_cases hj : j ∈ vs
    · exact .inl ⟨hj, backE_at hj h⟩
    · exact .inr ⟨hj, by rw [backE_get hj] at h; exact h⟩
  have old : ∀ j s, s ≠ .no → s = en.getD j .no → en[j]? = some s := fun j s hn e => by
    rw [List.getD_eq_getElem?_getD] at e
    cases q : en[j]? with
    | none => rw [q] at e; exact absurd e hn
    | some t => rw [q] at e; rw [e]; rfl
  refine ⟨?_, S.sub, S.f0, S.new, S.kp, S.z, fun j d h => ?_, fun j b xs h => ?_, fun j k c hjk hj hk e1 e2 => ?_⟩
  · rw [backE_len, ← S.len, wipe_length]
  · rcases key j _ h with ⟨m, z⟩ | ⟨n, z⟩
    · exact hv j m d (old j _ (fun q => by cases q) z)
    · obtain ⟨v, q⟩ := S.val j d z
      exact ⟨v, by rw [wipe_getN n] at q; exact q.1, q.2⟩
  · rcases key j _ h with ⟨m, z⟩ | ⟨n, z⟩
    · exact absurd ⟨b, xs, old j _ (fun q => by cases q) z⟩ (ho j m)
    · obtain ⟨c, ws, q⟩ := S.own j b xs z
      exact ⟨c, ws, by rw [wipe_getN n] at q; exact q.1, q.2⟩
  · obtain ⟨b, xs, hj⟩ := hj
    obtain ⟨b2, xs2, hk⟩ := hk
    rcases key j _ hj with ⟨m, z⟩ | ⟨n, z⟩
    · exact ho j m ⟨b, xs, old j _ (fun q => by cases q) z⟩
    · rcases key k _ hk with ⟨m, z2⟩ | ⟨n2, z2⟩
      · exact ho k m ⟨b2, xs2, old k _ (fun q => by cases q) z2⟩
      · rw [← wipe_getN n] at e1
        rw [← wipe_getN n2] at e2
        exact S.apart j k c hjk ⟨_, _, z⟩ ⟨_, _, z2⟩ e1 e2
end

/-- the turns of a comprehension -/
def lcL (pat : D → En → Option En) (tt : M Bool) (el : M Sl) (vs : List Nat) : List D → En → R (List D)
  | [], e => .ok [] e
  | d :: ds, e => match pat d e with
    | none => .bad
    | some e1 => (noX (tt e1)).bind fun b e2 => if b = true then (noX (vD el e2)).bind fun y e3 => (lcL pat tt el vs ds (wipeE e3 vs)).bind fun ys e4 => .ok (y :: ys) e4 else lcL pat tt el vs ds (wipeE e2 vs)
def vLc (it : M (List D)) (pat : D → En → Option En) (tt : M Bool) (el : M Sl) (vs : List Nat) : M Sl := fun en => (it en).bind fun xs e => if noOwn e vs = true ∧ xs.length ≤ LIM then
  (match lcL pat tt el vs xs (wipeE e vs) with
    | .ok ys e' => .ok (.own false ys) (backE e' e vs)
    | _ => .bad) else .bad
/-- one turn's reading in the block -/
def VTs (X : Cx) (W : WX) (ifs : List Expr) (f : M Bool) : Prop := ∀ B, PTs X ifs (tBl X.K X.mg B W f)
def bYes : M Bool := fun en => .ok true en
section
variable {X : Cx} {W : WX}
theorem ptsWk {ifs : List Expr} {t t' : TT} (h : PTs X ifs t) (w : ∀ σ H Q, t' σ H Q → t σ H Q) : PTs X ifs t' := ⟨fun pins s σ H Q I q => h.run pins s σ H Q I (w _ _ _ q)⟩
theorem vts_nil : VTs X W [] bYes := fun B => ptsWk pts_nil fun σ H Q ⟨F, en, S, p⟩ => p F H S (.refl _)
theorem vts_one {c : Expr} {f : M Bool} (h : VB X W c f) : VTs X W [c] f := fun B => pts_one (h B)
variable {elt tg iter : Expr} {ifs : List Expr} {scope : Scope} {own : List (Str × Nat)} {pos : Pos} {it : M (List D)} {pat : D → En → Option En} {tt : M Bool} {el : M Sl}
/-- the reading of a comprehension, from those of its parts -/
theorem rd_lc {K : PySem.W.Frag} {mg : Str → Option Value} {B : Bs} {vs : List Nat} {wi : TI} {g : TG} {tb : TT} {te : TE} {σ : L2.St} {H : Hp} {Q : VK}
    (hwi : ∀ R, tI K mg B W it σ H R → wi σ H R) (hg : ∀ B v σ H Q, tG K B vs pat v σ H Q → g v σ H Q) (ht : ∀ B σ H Q, tBl K mg B W0 tt σ H Q → tb σ H Q) (he : ∀ B σ H Q, tD K mg B W0 (vD el) σ H Q → te σ H Q)
    (h : tV K mg B W (vLc it pat tt el vs) σ H Q) : tLc wi g tb te vs σ H Q := by
  obtain ⟨F, en, S, p⟩ := h
  refine hwi _ ⟨F, en, S, (Post.bind p).imp fun xs en1 F1 H1 S1 s1 q J wk Dd hD => ?_⟩
  obtain ⟨G, Y, wlk, hG, hY⟩ := wk
  split at q
  · rename_i hh
    obtain ⟨hno, hlim⟩ := hh
    have hF1 : F1 Dd = none := S1.sub.free hD
    have hKD : B.Kp Dd = none := S1.kp.free hD
    have hZD : ¬ B.Z Dd := fun z => S1.z Dd z hD
    cases hr : lcL pat tt el vs xs (wipeE en1 vs) with
    | exc c fs e => rw [hr] at q; exact q.elim
    | bad => rw [hr] at q; exact q.elim
    | ok YS E' =>
      rw [hr] at q
      -- between two turns
      let Pv : Nat → Hp → Prop := fun i H2 => ∃ F2 en2 acc accD ys, Sim K (B.more F1 Dd acc) (wipe σ vs) en2 F2 H2 ∧ DpAll K F2 acc accD ∧ accD.length ≤ i ∧ lcL pat tt el vs (xs.drop i) en2 = .ok ys E' ∧ accD ++ ys = YS
      have h0 : Pv 0 (upd H1 Dd (.lst [])) := by
        refine ⟨F1, wipeE en1 vs, [], [], YS, ?_, .nil, Nat.le_refl _, by rw [List.drop_zero]; exact hr, rfl⟩
        have S2 := (S1.gr (Gr.made (o := .lst []) S1.sub hD)).wiped vs
        refine S2.under (.refl _) (fun c o e => .inl e) upd_same fun i hi e => ?_
        obtain ⟨b, zs, hi⟩ := hi
        obtain ⟨c, ws, e1, e2, _⟩ := (S1.wiped vs).own i b zs hi
        rw [e] at e1; cases e1
        rw [hD] at e2; cases e2
      refine lc_it wlk Pv h0 (fun i H2 _ ⟨F2, en2, acc, accD, ys, S2, _⟩ => hG F2 H2 S2.f0 S2.sub ((same_upd hKD).trans S2.kp)) (fun i x H2 H3 hi pv y => ?_) fun H2 pv => ?_
      · obtain ⟨F2, en2, acc, accD, ys, S2, ra, hla, hl, hys⟩ := pv
        obtain ⟨F3, gr, d, hd, dv⟩ := hY i F2 H2 x H3 hi S2.f0 S2.sub ((same_upd hKD).trans S2.kp) y
        have e1 : xs.drop i = d :: xs.drop (i + 1) := by
          rw [List.drop_eq_getElem_cons hi]
          rw [List.getElem?_eq_getElem hi] at hd
          rw [Option.some.inj hd]
        rw [e1] at hl
        unfold lcL at hl
        have S3 := S2.gr gr
        cases hpt : pat d en2 with
        | none => rw [hpt] at hl; cases hl
        | some e3 =>
          rw [hpt] at hl
          dsimp only at hl
          refine hg _ x _ _ _ ⟨F3, en2, d, S3, dv, e3, hpt, fun σ4 S4 w4 => ⟨w4.trans (wipe_wipe σ vs), ?_⟩⟩
          have w5 : wipe σ4 vs = wipe σ vs := w4.trans (wipe_wipe σ vs)
          refine ht (B.more F1 Dd acc) σ4 H3 _ ⟨F3, e3, S4, ?_⟩
          cases hb : tt e3 with
          | exc c fs e => rw [hb] at hl; cases hl
          | bad => rw [hb] at hl; cases hl
          | ok b e4 =>
            rw [hb] at hl
            simp only [noX_ok, R.bind_ok] at hl
            intro F5 H5 S5 s5
            cases b with
            | false =>
              rw [if_neg Bool.false_ne_true] at hl ⊢
              have S6 := S5.wiped vs
              rw [w5] at S6
              exact ⟨F5, wipeE e4 vs, acc, accD, ys, S6, dps_mono (gr.ff.trans s5) ra, Nat.le_succ_of_le hla, hl, hys⟩
            | true =>
              rw [if_pos rfl] at hl ⊢
              refine he (B.more F1 Dd acc) σ4 H5 _ ⟨F5, e4, S5, ?_⟩
              cases hel : vD el e4 with
              | exc c fs e => rw [hel] at hl; cases hl
              | bad => rw [hel] at hl; cases hl
              | ok y5 e5 =>
                rw [hel] at hl
                simp only [noX_ok, R.bind_ok] at hl
                intro F7 H7 S7 s7 v7 r7
                cases hrest : lcL pat tt el vs (xs.drop (i + 1)) (wipeE e5 vs) with
                | exc c fs e => rw [hrest] at hl; cases hl
                | bad => rw [hrest] at hl; cases hl
                | ok ys2 E2 =>
                  rw [hrest] at hl
                  simp only [R.bind_ok, R.ok.injEq] at hl
                  obtain ⟨rfl, rfl⟩ := hl
                  obtain ⟨S8, hD8, hF8, hn8⟩ := S7.outer (h0 := S1.f0) (h0n := S1.new) hKD hF1
                  have hlen : acc.length = accD.length := dps_len ra
                  refine ⟨acc, hD8, by rw [hlen]; exact lim_lt (by omega), F7, wipeE e5 vs, acc ++ [v7], accD ++ [y5], ys2, ?_, dps_app (dps_mono (gr.ff.trans (s5.trans s7)) ra) (dps_one r7), by rw [List.length_append, List.length_singleton]; omega, hrest, by rw [List.append_assoc]; exact hys⟩
                  have S9 : Sim K B σ4 e5 F7 (upd H7 Dd (.lst (acc ++ [v7]))) := by
                    refine ⟨S8.len, same_upd2 S8.sub hF8, S8.f0, S8.new, same_upd2 S8.kp hKD, fun c z => ?_, S8.val, fun k b zs hk => ?_, S8.apart⟩
                    · rw [upd_ne (fun (e : c = Dd) => hZD (by rw [← e]; exact z))]; exact S8.z c z
                    · obtain ⟨c, ws, q1, q2, q3⟩ := S8.own k b zs hk
                      refine ⟨c, ws, q1, ?_, q3⟩
                      rw [upd_ne (fun (e : c = Dd) => hn8 k ⟨_, _, hk⟩ (by rw [← e]; exact q1))]
                      exact q2
                  have S10 := S9.wiped vs
                  rw [w5] at S10
                  refine S10.under S7.f0 (fun c o e => ?_) upd_same fun k hk e => ?_
                  · rcases S7.new c o e with z | z
                    · exact .inl z
                    · exact .inr ⟨fun w => z (.inl w), fun w => z (.inr w)⟩
                  · obtain ⟨b, zs, hk⟩ := hk
                    have hkv : k ∉ vs := fun m => by
                      have := wipeE_at m hk
                      cases this
                    rw [wipeE_get hkv] at hk
                    rw [← w5, wipe_getN hkv] at e
                    exact hn8 k ⟨_, _, hk⟩ e
      · obtain ⟨F2, en2, acc, accD, ys, S2, ra, hla, hl, hys⟩ := pv
        rw [List.drop_length] at hl
        unfold lcL at hl
        simp only [R.ok.injEq] at hl
        obtain ⟨rfl, rfl⟩ := hl
        rw [List.append_nil] at hys
        subst hys
        obtain ⟨S3, hD3, hF3, hn3⟩ := S2.outer (h0 := S1.f0) (h0n := S1.new) hKD hF1
        have S4 : Sim K B σ (backE en2 en1 vs) F2 H2 := S3.back S1.len (noOwn_ok hno) fun i hi d hd => by
          obtain ⟨v, q1, q2⟩ := S1.val i d hd
          exact ⟨v, q1, dp_mono S2.f0 q2⟩
        refine q F2 H2 S4 S2.f0 (.ref Dd) ⟨rfl, Dd, acc, rfl, hD3, hF3, ra, hKD, hZD, fun i hi e => ?_⟩
        obtain ⟨b, zs, hi⟩ := hi
        by_cases hiv : i ∈ vs
        · have z := backE_at hiv hi
          refine noOwn_ok hno i hiv ⟨b, zs, ?_⟩
          rw [List.getD_eq_getElem?_getD] at z
          cases q5 : en1[i]? with
          | none => rw [q5] at z; cases z
          | some t => rw [q5] at z; rw [z]; rfl
        · rw [backE_get hiv] at hi
          rw [← wipe_getN hiv] at e
          exact hn3 i ⟨_, _, hi⟩ e
  · exact q.elim
end
end Mv

namespace Mv
open L2 PySem.Spec PySem PyProof.Rows

section
variable {X : Cx} {W : WX} {elt tg iter : Expr} {ifs : List Expr} {scope : Scope} {own : List (Str × Nat)} {pos : Pos} {it : M (List D)} {pat : D → En → Option En} {tt : M Bool} {el : M Sl}
theorem pgBlk {sh : Shared} {Hq : Hp} {ce : Env} {fp : List Addr} {e : Expr} {vs : List Nat} {g : D → En → Option En} (h : VG (X.blk sh Hq scope ce fp) e vs g) : PG (X.blk sh Hq scope ce fp) e (fun v σ H Q => ∃ B, tG X.K B vs g v σ H Q) := ⟨fun pins s σ H v u Q I r ⟨B, q⟩ => (h B).run pins s σ H v u Q I r q⟩
theorem ptsBlk {sh : Shared} {Hq : Hp} {ce : Env} {fp : List Addr} {fs : List Expr} {t : M Bool} (h : VTs (X.blk sh Hq scope ce fp) W0 fs t) : PTs (X.blk sh Hq scope ce fp) fs (fun σ H Q => ∃ B, tBl X.K X.mg B W0 t σ H Q) := ⟨fun pins s σ H Q I ⟨B, q⟩ => (h B).run pins s σ H Q I q⟩
theorem peBlk {sh : Shared} {Hq : Hp} {ce : Env} {fp : List Addr} {e : Expr} {f : M Sl} (h : VE (X.blk sh Hq scope ce fp) W0 e f) : PE (X.blk sh Hq scope ce fp) e (fun σ H Q => ∃ B, tD X.K X.mg B W0 (vD f) σ H Q) := ⟨fun pins s σ H Q I ⟨B, q⟩ => (h.d B).run pins s σ H Q I q⟩
theorem ve_lc (own : List (Str × Nat)) (hc : X.calm = true) (hN : X.N.Nodup) (ok : BlkOk X.N X.env.scope scope own) (hi : VI X W tg iter it)
    (hg : ∀ (s : Shared) (H : Hp) (C : Addr) (cl : List (Str × Addr)) (fp : List Addr), VG (X.blk s H scope (compEnvC scope cl C X.env) fp) tg (own.map (·.2)) pat)
    (ht : ∀ (s : Shared) (H : Hp) (C : Addr) (cl : List (Str × Addr)) (fp : List Addr), VTs (X.blk s H scope (compEnvC scope cl C X.env) fp) W0 ifs tt)
    (he : ∀ (s : Shared) (H : Hp) (C : Addr) (cl : List (Str × Addr)) (fp : List Addr), VE (X.blk s H scope (compEnvC scope cl C X.env) fp) W0 elt el) (hs : ∀ x, foldedSetIterable iter X.env x = pure x := by intro _; rfl) :
    VE X W (.ListComp elt [⟨tg, iter, ifs, 0⟩] scope pos) (vLc it pat tt el (own.map (·.2))) := fun B =>
  peWk (pe_lc hc hN (hi B) ok (fun s H C cl fp => pgBlk (hg s H C cl fp)) (fun s H C cl fp => ptsBlk (ht s H C cl fp)) (fun s H C cl fp => peBlk (he s H C cl fp)) hs) fun σ H Q h =>
    rd_lc (fun _ h => h) (fun B _ _ _ _ h => ⟨B, h⟩) (fun B _ _ _ h => ⟨B, h⟩) (fun B _ _ _ h => ⟨B, h⟩) h
/-- name = [..], on one line -/
theorem vs_setLc {i : Nat} {y : Str} {py spos : Pos} (own : List (Str × Nat)) (hc : X.calm = true) (hN : X.N.Nodup) (hsw : swapsWith (.ListComp elt [⟨tg, iter, ifs, 0⟩] scope pos) (some (.Name y py)) spos.line X.env = pure true) (hyl : X.env.scope.names.lookup y = some .local)
    (ok : BlkOk X.N X.env.scope scope own) (hi : VI X W tg iter it)
    (hg : ∀ (s : Shared) (H : Hp) (C : Addr) (cl : List (Str × Addr)) (fp : List Addr), VG (X.blk s H scope (compEnvC scope cl C X.env) fp) tg (own.map (·.2)) pat)
    (ht : ∀ (s : Shared) (H : Hp) (C : Addr) (cl : List (Str × Addr)) (fp : List Addr), VTs (X.blk s H scope (compEnvC scope cl C X.env) fp) W0 ifs tt)
    (he : ∀ (s : Shared) (H : Hp) (C : Addr) (cl : List (Str × Addr)) (fp : List Addr), VE (X.blk s H scope (compEnvC scope cl C X.env) fp) W0 elt el) (hy : X.N[i]? = some y := by rfl) (hs : ∀ x, foldedSetIterable iter X.env x = pure x := by intro _; rfl) :
    VS X W (.Assign [.Name y py] (.ListComp elt [⟨tg, iter, ifs, 0⟩] scope pos) spos) (sSet i (vLc it pat tt el (own.map (·.2)))) := fun B =>
  psWk (ps_setLc hc hN hy hyl hsw (hi B) ok (fun s H C cl fp => pgBlk (hg s H C cl fp)) (fun s H C cl fp => ptsBlk (ht s H C cl fp)) (fun s H C cl fp => peBlk (he s H C cl fp)) hs) fun Dn σ H ⟨F, en, S, p⟩ =>
    rd_lc (fun _ h => h) (fun B _ _ _ _ h => ⟨B, h⟩) (fun B _ _ _ h => ⟨B, h⟩) (fun B _ _ _ h => ⟨B, h⟩) ⟨F, en, S, (PostS.bind p).imp fun r en1 F1 H1 S1 s1 q v rv => q _ F1 H1 (S1.store rv) (.refl _)⟩
end

/-! ### calls of defs -/
inductive Out where
  | ret (r : Sl)
  | exc (c : Str) (fs : List (Str × D))
def spV (K : PySem.W.Frag) (mg : Str → Option Value) (m : List D → Option Out) : Sp := fun vs H Q E => ∃ F ds, Same F H ∧ DpAll K F vs ds ∧ match m ds with
  | some (.ret r) => ∀ F' H' v, Gr F H F' H' → RlF K F' H H' v r → Q v H'
  | some (.exc c fs) => ∀ F' H' cls d, Gr F H F' H' → RX K mg F' H' c fs cls d → E cls d H'
  | none => False
/-- room, and no repr under way -/
structure RoomG (k : Nat) (A : Around) : Prop where
  r : Room k A
  g : A.guards = some []
theorem RoomG.mono {j k : Nat} {A : Around} (h : RoomG k A) (le : j ≤ k) : RoomG j A := ⟨h.r.mono le, h.g⟩
/-- a def keeps a promise, where no repr is under way -/
structure FnG (P : Program) (w : World) (K : PySem.W.Frag) (mg : Str → Option Value) (base : Heap) (k : Nat) (f : Addr) (fd : FuncData) (ps : List Str) (sp : Sp) : Prop where
  len : ∀ vs H Q E,
                                                                                                                sp vs H Q E → vs.length = ps.length
  run : ∀ (A : Around) (outer : List Env) (s : Shared) (H : Hp) (args : Args) (us : List Value) (vs : List V) (Q : VK) (E : XK), RoomG k A → Env0 P w K mg base A outer s H → BindsTo s fd args (ps.zip us) → Vals vs us →
    sp vs H Q E → codeAny (model P w) A (.call (.ref f) args) (CR (L2.CX P w) outer P w H s Q E) s
theorem FnG.mono {P : Program} {w : World} {K : PySem.W.Frag} {mg : Str → Option Value} {base : Heap} {j k : Nat} {f : Addr} {fd : FuncData} {ps : List Str} {sp : Sp} (F : FnG P w K mg base j f fd ps sp) (le : j ≤ k) : FnG P w K mg base k f fd ps sp :=
  ⟨F.len, fun A outer s H args us vs Q E hr => F.run A outer s H args us vs Q E (hr.mono le)⟩
section
variable {X : Cx} {k : Nat} {f : Addr} {fd : FuncData} {ps : List Str} {sp : Sp} {E : L2.St → XK} {x : Str} {p pos : Pos} {e : Expr} {es : List Expr} {t : TA}
theorem runG {pins : List (Addr × Obj)} {σ : L2.St} {H : Hp} {s : Shared} {Q : VK} {us : List Value} {vs : List V} (F : FnG X.prog X.w X.K X.mg X.base k f fd ps sp) (hr : RoomG k X.A) (hb : Binds X.K fd ps []) (hx : PassesAt (L2.CX X.prog X.w) X σ (E σ))
    (I : Inv X pins σ H s) (r : Vals vs us) (h : sp vs H Q (E σ)) : wpAny
                                                                                                                  (model X.prog X.w) X.A (call (.ref f) us) (EP X pins σ Q) X.xe s := by
  have hl : us.length = ps.length := r.length.symm.trans (F.len _ _ _ _ h)
  have bd := hb s us I.kIn (by rw [List.append_nil]; exact hl)
  rw [List.append_nil] at bd
  refine wpAny_call (codeAny_mono (F.run X.A X.stack s H ⟨us, []⟩ us vs Q (E σ) hr I.env0 bd r h) fun res s2 hq => ?_)
  rcases res with e | (u | _ | _ | _) <;> first | exact hx pins H s _ s2 I hq | exact I.after hq | exact False.elim hq
theorem pe_callG (F : FnG X.prog X.w X.K X.mg X.base k f fd ps sp) (hr : RoomG k X.A) (hg : Gl X x) (hm : X.mg x = some (.ref f)) (hk : PySem.W.keepIn X.K (.ref f) = true) (hb : Binds X.K fd ps []) (hx : ∀ σ, PassesAt (L2.CX X.prog X.w) X σ (E σ))
    (ha : PA X (e :: es) t) (hdb : (x == ("__debug__" : Str)) = false) (he : starEach (e :: es) X.env = (false, eval e X.env) :: starEach es X.env) (hpl : (backTo pos (starEach es X.env)).any (·.1) = false) :
    PE X (.Call (.Name x p) (e :: es) [] pos) (tCallS sp E t) := ⟨fun pins s σ H Q I h => wpAny_Call_Name_kw (ld_glob I hg hm
      (PySem.W.callWith_K (h₀ := X.base) I.ok.mod.kin hk (thn (ha.run pos pins s σ H _ I h) fun us s1 ⟨vs, H1, I1, r, q⟩ => ⟨I1.kIn, runG F hr hb (hx σ) I1 r q⟩) he hpl) hdb)⟩
theorem fnG_of {P : Program} {w : World} {K : PySem.W.Frag} {mg : Str → Option Value} {base : Heap} {x qual : Str} {st : Stmt} {N : List Str} (F : Fun K x qual st f fd) (S : FnScope N ps (defScope st)) (len : ∀ vs H Q E, sp vs H Q E → vs.length = ps.length)
    (hbody : ∀ (cdv : Value) (A : Around) (outer : List Env) (s : Shared) (H : Hp) (vs : List V) (Q : VK) (E : XK), RoomG k (A.deeper (envOfC qual (defScope st) s.heap.objs.size f cdv)) → sp vs H Q E →
      ∃ t, PSs (cxOf (L2.CX P w) P w K mg base N qual (defScope st) f cdv A outer s H E) (defBody st) t ∧ t { nx := fun _ H' => Q .non H', rt := Q } (L2.start N vs) H) : FnG P w K mg base (k + 1) f fd ps sp := by
  obtain ⟨oc, od, kV, dc, pm, an, cdv, ct, osl, rfl, lk, hcd⟩ := F.ex
  refine ⟨len,
                                                                                                                fun A outer s H args us vs Q E hr e0 hb r hsp => ?_⟩
  have hl := len _ _ _ _ hsp
  have keep : ∀ b o, base.get? b = some o → s.heap.get? b = some o := fun b o e => (e0.bs b o e).1
  have lim : s.heap.NoLimit := e0.mod.nolimit.keeps keep
  have KX : K.In s.heap := e0.mod.kin.keeps keep
  refine codeAny_call_function hr.r.depth (KX _ _ lk) rfl S.co S.gen rfl (PySem.W.codeRec_of KX hcd) (hb _ _ _ _ ?_)
  refine wpAny_newFunctionEnv_cells S.kind (fun y hy => ?_) fun env he s1 x => ?_
  · obtain ⟨n, v⟩ := y
    exact (S.par n (List.of_mem_zip hy).1).imp id fun q => ⟨q, PySem.W.cellsFrom_some _ _ _ (.inl q)⟩
  subst he
  obtain ⟨t, ht, hq⟩ := hbody cdv A outer s H vs Q E ⟨hr.r.deeper _, hr.g⟩ hsp
  refine ⟨lim.keeps x.toInCall.keep, codeAny_func (wpAny_mono (ht.run [] s1 _ H _ (inv_start S hr.r.hd e0 hl r x) hq) (fun fl s2 hs => ?_) fun _ _ h => h)⟩
  rcases fl with u | _ | _ | _
  all_goals first
    | (obtain ⟨v, σ', H', J, rv, q⟩ := hs; exact ⟨v, H', J.os, J.bare, J.base, J.hok, rv, q⟩)
    | (obtain ⟨σ', H', J, q⟩ := hs; exact False.elim q)
    | (obtain ⟨σ', H', J, q⟩ := hs; exact ⟨V.non, H', J.os, J.bare, J.base, J.hok, rfl, q⟩)
end
structure FnV (P : Program) (w : World) (K : PySem.W.Frag) (mg : Str → Option Value) (base : Heap) (x : Str) (k : Nat) (m : List D → Option Out) : Prop where
  ex : ∃ (f : Addr) (fd : FuncData) (ps : List Str), FnG P w K mg base k f fd ps (spV K mg m) ∧ mg x = some (.ref f) ∧ PySem.W.keepIn K (.ref f) = true ∧ Binds K fd ps []
theorem FnV.mono {P : Program} {w : World} {K : PySem.W.Frag} {mg : Str → Option Value} {base : Heap} {x : Str} {j k : Nat} {m : List D → Option Out} (F : FnV P w K mg base x j m) (h : j ≤ k) : FnV P w K mg base x k m :=
  let ⟨f, fd, ps, h1, h2⟩ := F.ex
  ⟨f, fd, ps, h1.mono h, h2⟩
/-- the bag: a list that the callee changes, its first argument -/
structure GrB (b : Addr) (F H F' H' : Hp) : Prop where
  ff : Same F F'
  fh : Same F' H'
  hh : ∀ a o, a ≠ b → H a = some o → H' a = some o
  nw : ∀ a o, F' a = some o → F a = some o ∨ H a = none
def spB (K : PySem.W.Frag) (mg : Str → Option Value) (m : List D → List D → Option (Out × List D)) : Sp := fun vs H Q E => ∃ (b : Addr) (vs' ws : List V) (xs : List D) (F : Hp) (ds : List D),
  vs = .ref b :: vs' ∧ H b = some (.lst ws) ∧ F b = none ∧ Same F H ∧ DpAll K F ws xs ∧ DpAll K F vs' ds ∧ match m xs ds with
  | some (.ret r, ys) => ∀ F' H' v ws', GrB b F H F' H' → H' b = some (.lst ws') → DpAll K F' ws' ys → RlF K F' H H' v r → Q v H'
  | some (.exc c fs, ys) => ∀ F' H' cls d ws', GrB b F H F' H' → H' b = some (.lst ws') → DpAll K F' ws' ys → RX K mg F' H' c fs cls d → E cls d H'
  | none => False
structure FnB (P : Program) (w : World) (K : PySem.W.Frag) (mg : Str → Option Value) (base : Heap) (x : Str) (k : Nat) (m : List D → List D → Option (Out × List D)) : Prop where
  ex : ∃ (f : Addr) (fd : FuncData) (ps : List Str), FnG P w K mg base k f fd ps (spB K mg m) ∧ mg x = some (.ref f) ∧ PySem.W.keepIn K (.ref f) = true ∧ Binds K fd ps []
theorem FnB.mono {P : Program} {w : World} {K : PySem.W.Frag} {mg : Str → Option Value} {base : Heap} {x : Str} {j k : Nat} {m : List D → List D → Option (Out × List D)} (F : FnB P w K mg base x j m) (h : j ≤ k) : FnB P w K mg base x k m :=
  let ⟨f, fd, ps, h1, h2⟩ := F.ex
  ⟨f, fd, ps, h1.mono h, h2⟩

/-- what a call gives, in a state -/
def callR (o : Option Out) (e : En) : R Sl := match o with
  | some (.ret r) => .ok r e
  | some (.exc c fs) => .exc c fs e
  | none => .bad
@[simp] theorem callR_ret (r : Sl) (e : En) : callR (some (.ret r)) e = .ok r e := rfl
@[simp] theorem callR_exc (c fs) (e : En) : callR (some (.exc c fs)) e = .exc c fs e := rfl
def vCall (m : List D → Option Out) (g : M (List D)) : M Sl := fun en => (g en).bind fun ds e => callR (m ds) e
section
variable {X : Cx} {W : WX} {e : Expr} {es : List Expr} {x y : Str} {p py pos : Pos} {g : M (List D)} {k : Nat} {m : List D → Option Out} {mb : List D → List D → Option (Out × List D)}
theorem sp_call {B : Bs} {σ : L2.St} {en : En} {F H : Hp} {Q : VK} {vs : List V} {ds : List D} (S : Sim X.K B σ en F H) (rv : DpAll X.K F vs ds) (q : Post X.K X.mg B W σ F (fun r en' F' H' => ∀ v, Rl X.K B σ en' F' H' v r → Q v H') (callR (m ds) en)) :
    spV X.K X.mg m vs H Q (WE W σ) := by
  refine ⟨F, ds, S.sub, rv, ?_⟩
  cases hm : m ds with
  | none => rw [hm] at q; exact q.elim
  | some o =>
    rw [hm] at q
    cases o with
    | ret r => exact fun F' H' v gr h => q F' H' (S.gr gr) gr.ff v (S.res h)
    | exc c fs => exact fun F' H' cls d gr h => q F' H' cls d (S.gr gr) gr.ff h
theorem ve_call (C : FnV X.prog X.w X.K X.mg X.base x k m) (hr : RoomG k X.A) (tk : Takes X W) (ha : VDs X W (e :: es) g)
    (hg : Gl X x := by rfl) (hdb : (x == ("__debug__" : Str)) = false := by decide) (he : starEach (e :: es) X.env = (false, eval e X.env) :: starEach es X.env := by rfl) (hpl : (backTo pos (starEach es X.env)).any (·.1) = false := by rfl) :
    VE X W (.Call (.Name x p) (e :: es) [] pos) (vCall m g) := fun B => by
  obtain ⟨f, fd, ps, FO, hm, hk, hb⟩ := C.ex
  refine peWk (pe_callG (E := WE W) FO hr hg hm hk hb (fun σ => passAt tk σ) (ha B) hdb he hpl) fun σ H Q ⟨F, en, S, q⟩ => ?_
  exact ⟨F, en, S, (Post.bind q).imp fun ds en1 F1 H1 S1 s1 q1 vs rv => sp_call S1 rv q1⟩
/-- f(bag, ..) -/
def callB (i : Nat) (o : Option (Out × List D)) (b : Bool) (e : En) : R Sl := match o with
  | some (.ret r, ys) => .ok r (e.set i (.own b ys))
  | some (.exc c fs, ys) => .exc c fs (e.set i (.own b ys))
  | none => .bad
def ownE {α : Type} (i : Nat) (e : En) (k : Bool → List D → R α) : R α := match e[i]? with
  | some (.own b xs) => k b xs
  | _ => .bad
def vCallB (i : Nat) (m : List D → List D → Option (Out × List D)) (g : M (List D)) : M Sl := fun en => ownE i en fun _ _ => (g en).bind fun ds e => ownE i e fun b xs => callB i (m xs ds) b e
theorem upd_id {H : Hp} {a : Addr} {o : HO} (h : H a = some o) : upd H a o = H := by
  funext c
  by_cases hc : c = a
  · subst hc; rw [upd_same, h]
  · rw [upd_ne hc]
theorem Sim.grB {K : PySem.W.Frag} {B : Bs} {σ : L2.St} {en : En} {F H F' H' : Hp} {i : Nat} {b : Bool} {xs ys : List D} {a : Addr} {vs ws : List V} (S : Sim K B σ en F H) (h : en[i]? = some (.own b xs)) (h1 : σ[i]? = some (some (.ref a))) (h2 : H a = some (.lst vs))
    (h4 : F a = none) (gr : GrB a F H F' H') (h5 : H' a = some (.lst ws)) (h6 : DpAll K F' ws ys) : Sim K B σ (en.set i (.own b ys)) F' H' := by
  have hF' : F' a = none := by
    cases q : F' a with
    | none => rfl
    | some o =>
      rcases gr.nw a o q with z | z
      · rw [h4] at z; cases z
      · rw [h2] at z; cases z
  have g2 : Gr F H F' (upd H' a (.lst vs)) := by
    refine ⟨gr.ff, same_upd2 gr.fh hF', fun c o e => ?_, gr.nw⟩
    by_cases hc : c = a
    · subst hc; rw [upd_same, ← h2]; exact e
    · rw [upd_ne hc]; exact gr.hh c o hc e
  have S3 := (S.gr g2).change (i := i) h h1 upd_same h6
  rw [upd_upd, upd_id h5] at S3
  exact S3
theorem ve_callBag {i : Nat} (C : FnB X.prog X.w X.K X.mg X.base x k mb) (hr : RoomG k X.A) (tk : Takes X W) (ha : VDs X W es g) (hN : X.N[i]? = some y := by rfl) (hv : Vis X.env.scope y := by first | exact Or.inl rfl | exact Or.inr (Or.inl rfl) | exact Or.inr (Or.inr rfl))
    (hd : (y == ("__debug__" : Str)) = false := by decide) (hcd : (y == ("__classdict__" : Str)) = false := by decide)
    (hg : Gl X x := by rfl) (hdb : (x == ("__debug__" : Str)) = false := by decide) (he : starEach (.Name y py :: es) X.env = (false, eval (.Name y py) X.env) :: starEach es X.env := by rfl) (hpl : (backTo pos (starEach es X.env)).any (·.1) = false := by rfl) :
    VE X W (.Call (.Name x p) (.Name y py :: es) [] pos) (vCallB i mb g) := fun B => by
  obtain ⟨f, fd, ps, FO, hm, hk, hb⟩ := C.ex
  refine peWk (pe_callG (E := WE W) FO hr hg hm hk hb (fun σ => passAt tk σ) (pa_cons (pe_var hN hv hd hcd) (ha B) he) hdb he hpl) fun σ H Q ⟨F, en, S, q⟩ => ?_
  unfold vCallB ownE at q
  split at q
  · rename_i b0 xs0 h0
    obtain ⟨a, vs0, e0, l0, f0, _⟩ := S.own i b0 xs0 h0
    refine ⟨_, e0, F, en, S, (Post.bind q).imp fun ds en1 F1 H1 S1 s1 q1 us rv => ?_⟩
    split at q1
    · rename_i b xs h1
      obtain ⟨a1, vs, e1, l1, f1, r1, _⟩ := S1.own i b xs h1
      rw [e0] at e1
      cases e1
      refine ⟨a, us, vs, xs, F1, ds, rfl, l1, f1, S1.sub, r1, rv, ?_⟩
      dsimp only at q1
      unfold callB at q1
      cases hmm : mb xs ds with
      | none => rw [hmm] at q1; exact q1.elim
      | some o =>
        obtain ⟨o, ys⟩ := o
        rw [hmm] at q1
        cases o with
        | ret r =>
          intro F' H' v ws' gr h5 h6 hr2
          refine q1 F' H' (S1.grB h1 e0 l1 f1 gr h5 h6) gr.ff v ?_
          cases r with
          | no => exact hr2
          | val d => exact hr2
          | own b2 zs =>
            obtain ⟨rfl, c, us2, rfl, z1, z2, z3, z4⟩ := hr2
            refine ⟨rfl, c, us2, rfl, z1, z2, z3, S1.kp.free z4, fun z => S1.z c z z4, fun j hj e => ?_⟩
            have hj' : isOwn en1 j := by
              rcases isOwn_set hj with ⟨q, _⟩ | ⟨_, q⟩
              · rw [q]; exact isOwn_out h1
              · exact q
            obtain ⟨b3, us3, hj3⟩ := hj'
            obtain ⟨c', _, w1, w2, _⟩ := S1.own j b3 us3 hj3
            rw [e] at w1; cases w1
            rw [z4] at w2; cases w2
        | exc c fs => exact fun F' H' cls d ws' gr h5 h6 hx => q1 F' H' cls d (S1.grB h1 e0 l1 f1 gr h5 h6) gr.ff hx
    · exact q1.elim
  · exact q.elim
end

/-! ### a def keeps its promise -/
def startE (n : Nat) (ds : List D) : En := ds.map Sl.val ++ List.replicate (n - ds.length) .no
def outOf : R Fl → Option Out
  | .ok (.rt r) _ => some (.ret r)
  | .ok .nx _ => some (.ret (.val .none))
  | .exc c fs _ => some (.exc c fs)
  | _ => none
def outB : R Fl → Option (Out × List D)
  | .ok (.rt r) e => (match (e[0]? : Option Sl) with
    | some (.own true ys) => some (.ret r, ys)
    | _ => none)
  | .ok .nx e => (match (e[0]? : Option Sl) with
    | some (.own true ys) => some (.ret (.val .none), ys)
    | _ => none)
  | .exc c fs e => (match (e[0]? : Option Sl) with
    | some (.own true ys) => some (.exc c fs, ys)
    | _ => none)
  | _ => none
section
variable {K : PySem.W.Frag} {mg : Str → Option Value} {F H : Hp}
def bs0 (F H : Hp) : Bs := ⟨F, H, fun a => H a ≠ none, fun _ => False⟩
def bsB (F H : Hp) (b : Addr) : Bs := ⟨F, fun a => if a = b then none else H a, fun a => H a ≠ none, fun a => a = b⟩
theorem start_get {vs : List V} {ds : List D} {n i : Nat} {s : Sl} (h : (startE n ds)[i]? = some s) : (∃ d, s = .val d ∧ ds[i]? = some d) ∨ s = .no := by
  unfold startE at h
  by_cases hi : i < (ds.map Sl.val).length
  · rw [List.getElem?_append_left hi, List.getElem?_map] at h
    cases q : ds[i]? with
    | none => rw [q] at h; cases h
    | some d => rw [q] at h; exact .inl ⟨d, (Option.some.inj h).symm, rfl⟩
  · rw [List.getElem?_append_right (Nat.le_of_not_lt hi), List.getElem?_replicate] at h
    split at h
    · exact .inr (Option.some.inj h).symm
    · cases h
theorem sim_start {N : List Str} {vs : List V} {ds : List D} (s : Same F H) (r : DpAll K F vs ds) (hn : ds.length ≤ N.length) : Sim K (bs0 F H) (L2.start N vs) (startE N.length ds) F H := by
  have hl := dps_len r
  refine ⟨by simp [L2.start, startE, hl], s, .refl _, fun a o e => .inl e, .refl _, fun a z => z, fun i d h => ?_, fun i b xs h => ?_, fun i j a _ hi => ?_⟩
  · rcases start_get (vs := vs) h with ⟨d', e, q⟩ | e
    · cases e
      have hi : i < vs.length := by rw [hl]; exact (List.getElem?_eq_some_iff.mp q).1
      refine ⟨vs[i], ?_, dps_get r (List.getElem?_eq_getElem hi) q⟩
      unfold L2.start
      rw [List.getElem?_append_left (by simpa using hi), List.getElem?_map, List.getElem?_eq_getElem hi]
      rfl
    · cases e
  · rcases start_get (vs := vs) h with ⟨d', e, q⟩ | e <;> cases e
  · obtain ⟨b, xs, h⟩ := hi
    rcases start_get (vs := vs) h with ⟨d', e, q⟩ | e <;> cases e
theorem end_gr {σ : L2.St} {en : En} {F' H' : Hp} (S : Sim K (bs0 F H) σ en F' H') (s : Same F F') : Gr F H F' H' :=
  ⟨s, S.sub, S.kp, fun a o e => (S.new a o e).imp_right fun z => Classical.byContradiction fun q => z q⟩
theorem end_rl {σ : L2.St} {en : En} {F' H' : Hp} {v : V} {r : Sl} (h : Rl K (bs0 F H) σ en F' H' v r) : RlF K F' H H' v r := by
  cases r with
  | no => exact h
  | val d => exact h
  | own b xs =>
    obtain ⟨rfl, a, vs, rfl, h1, h2, h3, h4, h5, _⟩ := h
    exact ⟨rfl, a, vs, rfl, h1, h2, h3, Classical.byContradiction fun q => h5 q⟩
/-- what a promise wants behind the body -/
def wantV (K : PySem.W.Frag) (mg : Str → Option Value) (F H : Hp) (Q : VK) (E : XK) : Option Out → Prop
  | some (.ret r) => ∀ F' H' v, Gr F H F' H' → RlF K F' H H' v r → Q v H'
  | some (.exc c fs) => ∀ F' H' cls d, Gr F H F' H' → RX K mg F' H' c fs cls d → E cls d H'
  | none => False
theorem tS_of {W : WX} {N : List Str} {vs : List V} {ds : List D} {Q : VK} {E : XK} {o : Out} {g : MS} (hW : W = fun cls d _ H => E cls d H) (s : Same F H) (rv : DpAll K F vs ds) (hle : ds.length ≤ N.length) (q : wantV K mg F H Q E (some o))
    (hg : outOf (g (startE N.length ds)) = some o) : tS K mg (bs0 F H) W g { nx := fun _ H' => Q .non H', rt := Q } (L2.start N vs) H := by
  refine ⟨F, _, sim_start s rv hle, ?_⟩
  cases hr : g (startE N.length ds) with
  | bad => rw [hr] at hg; cases hg
  | exc c fs e =>
    rw [hr] at hg
    cases hg
    intro σ' F' H' cls d S' s' hx
    rw [hW]
    exact q F' H' cls d (end_gr S' s') hx
  | ok a e =>
    rw [hr] at hg
    cases a with
    | nx =>
      cases hg
      exact fun σ' F' H' S' s' => q F' H' _ (end_gr S' s') .non
    | rt r =>
      cases hg
      exact fun σ' F' H' v S' s' hr => q F' H' v (end_gr S' s') (end_rl hr)
    | bk => cases hg
    | ct => cases hg
theorem sim_startB {N : List Str} {b : Addr} {vs ws : List V} {xs ds : List D} (s : Same F H) (hb : H b = some (.lst ws)) (fb : F b = none) (rb : DpAll K F ws xs) (r : DpAll K F vs ds) (hn : ds.length + 1 ≤ N.length) :
    Sim K (bsB F H b) (L2.start N (.ref b :: vs)) (.own true xs :: startE (N.length - 1) ds) F H := by
  have hl := dps_len r
  have tl : ∀ i, (L2.start N (.ref b :: vs))[i + 1]? = (vs.map some ++ List.replicate (N.length - 1 - vs.length) none)[i]? := fun i => by
    unfold L2.start
    rw [List.map_cons, List.cons_append, List.getElem?_cons_succ, List.length_cons, show N.length - (vs.length + 1) = N.length - 1 - vs.length by omega]
  refine ⟨by simp [L2.start, startE, hl]; omega, s, .refl _, fun a o e => .inl e, fun a o e => ?_, fun a z => z, fun i d h => ?_, fun i b' zs h => ?_, fun i j a hij hi hj => ?_⟩
  · have e' : (if a = b then none else H a) = some o := e
    split at e'
    · cases e'
    · exact e'
  · cases i with
    | zero => cases h
    | succ i =>
      rw [List.getElem?_cons_succ] at h
      rcases start_get (vs := vs) h with ⟨d', e, q⟩ | e
      · cases e
        have hi : i < vs.length := by rw [hl]; exact (List.getElem?_eq_some_iff.mp q).1
        refine ⟨vs[i], ?_, dps_get r (List.getElem?_eq_getElem hi) q⟩
        rw [tl, List.getElem?_append_left (by simpa using hi), List.getElem?_map, List.getElem?_eq_getElem hi]
        rfl
      · cases e
  · cases i with
    | zero =>
      cases h
      exact ⟨b, ws, rfl, hb, fb, rb, if_pos rfl, (fun z => by cases z), fun _ => rfl⟩
    | succ i =>
      rw [List.getElem?_cons_succ] at h
      rcases start_get (vs := vs) h with ⟨d', e, q⟩ | e <;> cases e
  · have z : ∀ k, isOwn (Sl.own true xs :: startE (N.length - 1) ds) k → k = 0 := fun k ⟨b', zs, h⟩ => by
      cases k with
      | zero => rfl
      | succ k =>
        rw [List.getElem?_cons_succ] at h
        rcases start_get (vs := vs) h with ⟨d', e, q⟩ | e <;> cases e
    exact absurd ((z i hi).trans (z j hj).symm) hij
theorem end_grB {b : Addr} {ws : List V} {σ : L2.St} {en : En} {F' H' : Hp} (S : Sim K (bsB F H b) σ en F' H') (s : Same F F') : GrB b F H F' H' :=
  ⟨s, S.sub, fun a o n e => S.kp a o (show (if a = b then none else H a) = some o by rw [if_neg n]; exact e), fun a o e => (S.new a o e).imp_right fun z => Classical.byContradiction fun q => z q⟩
theorem end_rlB {b : Addr} {σ : L2.St} {en : En} {F' H' : Hp} {v : V} {r : Sl} (h : Rl K (bsB F H b) σ en F' H' v r) : RlF K F' H H' v r := by
  cases r with
  | no => exact h
  | val d => exact h
  | own b' xs =>
    obtain ⟨rfl, a, vs, rfl, h1, h2, h3, h4, h5, _⟩ := h
    exact ⟨rfl, a, vs, rfl, h1, h2, h3, Classical.byContradiction fun q => h5 q⟩
theorem end_bag {b : Addr} {σ : L2.St} {en : En} {F' H' : Hp} {ys : List D} (S : Sim K (bsB F H b) σ en F' H') (h : en[0]? = some (.own true ys)) : ∃ ws, H' b = some (.lst ws) ∧ DpAll K F' ws ys := by
  obtain ⟨a, ws, h1, h2, h3, h4, _, _, h7⟩ := S.own 0 true ys h
  have e : a = b := h7 rfl
  subst e
  exact ⟨ws, h2, h4⟩
def wantB (K : PySem.W.Frag) (mg : Str → Option Value) (b : Addr) (F H : Hp) (Q : VK) (E : XK) : Option (Out × List D) → Prop
  | some (.ret r, ys) => ∀ F' H' v ws', GrB b F H F' H' → H' b = some (.lst ws') → DpAll K F' ws' ys → RlF K F' H H' v r → Q v H'
  | some (.exc c fs, ys) => ∀ F' H' cls d ws', GrB b F H F' H' → H' b = some (.lst ws') → DpAll K F' ws' ys → RX K mg F' H' c fs cls d → E cls d H'
  | none => False
theorem tS_ofB {W : WX} {N : List Str} {b : Addr} {vs ws : List V} {xs ds : List D} {Q : VK} {E : XK} {o : Out × List D} {g : MS} (hW : W = fun cls d _ H => E cls d H) (s : Same F H) (hb : H b = some (.lst ws)) (fb : F b = none) (rb : DpAll K F ws xs) (rv : DpAll K F vs ds)
    (hle : ds.length + 1 ≤ N.length) (q : wantB K mg b F H Q E (some o)) (hg : outB (g (.own true xs :: startE (N.length - 1) ds)) = some o) :
    tS K mg (bsB F H b) W g { nx := fun _ H' => Q .non H', rt := Q } (L2.start N (.ref b :: vs)) H := by
  refine ⟨F, _, sim_startB s hb fb rb rv hle, ?_⟩
  obtain ⟨o, ys⟩ := o
  cases hr : g (.own true xs :: startE (N.length - 1) ds) with
  | bad => rw [hr] at hg; cases hg
  | exc c fs e =>
    rw [hr] at hg
    unfold outB at hg
    dsimp only at hg
    split at hg
    · rename_i zs hz
      cases hg
      intro σ' F' H' cls d S' s' hx
      rw [hW]
      obtain ⟨ws', z1, z2⟩ := end_bag S' hz
      exact q F' H' cls d ws' (end_grB (ws := ws) S' s') z1 z2 hx
    · cases hg
  | ok a e =>
    rw [hr] at hg
    unfold outB at hg
    cases a with
    | nx =>
      dsimp only at hg
      split at hg
      · rename_i zs hz
        cases hg
        intro σ' F' H' S' s'
        obtain ⟨ws', z1, z2⟩ := end_bag S' hz
        exact q F' H' _ ws' (end_grB (ws := ws) S' s') z1 z2 .non
      · cases hg
    | rt r =>
      dsimp only at hg
      split at hg
      · rename_i zs hz
        cases hg
        intro σ' F' H' v S' s' hr
        obtain ⟨ws', z1, z2⟩ := end_bag S' hz
        exact q F' H' v ws' (end_grB (ws := ws) S' s') z1 z2 (end_rlB hr)
      · cases hg
    | bk => cases hg
    | ct => cases hg
end

/-- the context of a def's body -/
abbrev bodyX (P : Program) (w : World) (K : PySem.W.Frag) (mg : Str → Option Value) (base : Heap) (N : List Str) (qual : Str) (st : Stmt) (f : Addr) (cdv : Value) (A : Around) (outer : List Env) (s : Shared) (H : Hp) (E : XK) : Cx :=
  cxOf (L2.CX P w) P w K mg base N qual (defScope st) f cdv A outer s H E
section
variable {P : Program} {w : World} {K : PySem.W.Frag} {mg : Str → Option Value} {base : Heap} {x qual : Str} {st : Stmt} {f : Addr} {fd : FuncData} {N ps : List Str} {k : Nat}
theorem body_takes {cdv : Value} {A : Around} {outer : List Env} {s : Shared} {H : Hp} {E : XK} : Takes (bodyX P w K mg base N qual st f cdv A outer s H E) (fun cls d _ H => E cls d H) := takes_of rfl rfl rfl rfl
/-- a def that changes no list of its caller's; g by fuel -/
theorem fng_mk {m : List D → Option Out} (F : Fun K x qual st f fd) (S : FnScope N ps (defScope st)) (hlen : ∀ ds o, m ds = some o → ds.length = ps.length) (g : Nat → MS)
    (body : ∀ (n : Nat) (cdv : Value) (A : Around) (outer : List Env) (s : Shared) (H : Hp) (E : XK), RoomG k (A.deeper (envOfC qual (defScope st) s.heap.objs.size f cdv)) →
      VSs (bodyX P w K mg base N qual st f cdv A outer s H E) (fun cls d _ H => E cls d H) (defBody st) (g n))
    (eq : ∀ ds o, m ds = some o → ∃ n, outOf (g n (startE N.length ds)) = some o) : FnG P w K mg base (k + 1) f fd ps (spV K mg m) := by
  refine fnG_of F S (fun vs H Q E ⟨F0, ds, _, rv, q⟩ => ?_) (fun cdv A outer s H vs Q E hr h => ?_)
  · cases hmm : m ds with
    | none => rw [hmm] at q; exact q.elim
    | some o => rw [dps_len rv, hlen ds o hmm]
  · have hps : ps.length ≤ N.length := by
      have := congrArg List.length S.pre
      rw [List.length_take] at this
      omega
    obtain ⟨F0, ds, s0, rv, q⟩ := h
    cases hmm : m ds with
    | none => rw [hmm] at q; exact q.elim
    | some o =>
      rw [hmm] at q
      obtain ⟨n, hn⟩ := eq ds o hmm
      refine ⟨_, body n cdv A outer s H E hr (bs0 F0 H), tS_of rfl s0 rv (by rw [hlen ds o hmm]; exact hps) ?_ hn⟩
      cases o <;> exact q
theorem fnv_mk {m : List D → Option Out} (F : Fun K x qual st f fd) (S : FnScope N ps (defScope st)) (hm : mg x = some (.ref f)) (b : Binds K fd ps []) (hlen : ∀ ds o, m ds = some o → ds.length = ps.length) (g : Nat → MS)
    (body : ∀ (n : Nat) (cdv : Value) (A : Around) (outer : List Env) (s : Shared) (H : Hp) (E : XK), RoomG k (A.deeper (envOfC qual (defScope st) s.heap.objs.size f cdv)) →
      VSs (bodyX P w K mg base N qual st f cdv A outer s H E) (fun cls d _ H => E cls d H) (defBody st) (g n))
    (eq : ∀ ds o, m ds = some o → ∃ n, outOf (g n (startE N.length ds)) = some o) : FnV P w K mg base x (k + 1) m := ⟨f, fd, ps, fng_mk F S hlen g body eq, hm, F.kp, b⟩
/-- a def whose first argument is the bag -/
theorem fnb_mk {m : List D → List D → Option (Out × List D)} (F : Fun K x qual st f fd) (S : FnScope N ps (defScope st)) (hm : mg x = some (.ref f)) (b : Binds K fd ps []) (hlen : ∀ xs ds o, m xs ds = some o → ds.length + 1 = ps.length) (g : Nat → MS)
    (body : ∀ (n : Nat) (cdv : Value) (A : Around) (outer : List Env) (s : Shared) (H : Hp) (E : XK), RoomG k (A.deeper (envOfC qual (defScope st) s.heap.objs.size f cdv)) →
      VSs (bodyX P w K mg base N qual st f cdv A outer s H E) (fun cls d _ H => E cls d H) (defBody st) (g n))
    (eq : ∀ xs ds o, m xs ds = some o → ∃ n, outB (g n (.own true xs :: startE (N.length - 1) ds)) = some o) : FnB P w K mg base x (k + 1) m := by
  refine ⟨f, fd, ps, fnG_of F S (fun vs H Q E ⟨b, vs', ws, xs, F0, ds, e, _, _, _, _, rv, q⟩ => ?_) (fun cdv A outer s H vs Q E hr h => ?_), hm, F.kp, b⟩
  · cases hmm : m xs ds with
    | none => rw [hmm] at q; exact q.elim
    | some o => rw [e, List.length_cons, dps_len rv, hlen xs ds o hmm]
  · have hps : ps.length ≤ N.length := by
      have := congrArg List.length S.pre
      rw [List.length_take] at this
      omega
    obtain ⟨b, vs', ws, xs, F0, ds, rfl, hb, fb, s0, rb, rv, q⟩ := h
    cases hmm : m xs ds with
    | none => rw [hmm] at q; exact q.elim
    | some o =>
      rw [hmm] at q
      obtain ⟨n, hn⟩ := eq xs ds o hmm
      refine ⟨_, body n cdv A outer s H E hr (bsB F0 H b), tS_ofB rfl s0 hb fb rb rv (by rw [hlen xs ds o hmm]; exact hps) ?_ hn⟩
      obtain ⟨o, ys⟩ := o
      cases o <;> exact q
end
end Mv

namespace Mv
open L2 PySem.Spec PySem PyProof.Rows

section
variable {X : Cx}
theorem int_of {K : PySem.W.Frag} {F : Hp} {v : V} {i : Int} (h : Dp K F v (.int i)) : v = .int i := by cases h; rfl
theorem str_of {K : PySem.W.Frag} {F : Hp} {v : V} {x : Str} (h : Dp K F v (.str x)) : v = .str x := by cases h; rfl
theorem bl_of {K : PySem.W.Frag} {F : Hp} {v : V} {b : Bool} (h : Dp K F v (.bool b)) : v = .bl b := by cases h; rfl
theorem lst_of {K : PySem.W.Frag} {F : Hp} {v : V} {ds : List D} (h : Dp K F v (.list ds)) : ∃ a xs, v = .ref a ∧ Rd F a (.lst xs) ∧ DpAll K F xs ds := by cases h with | lst a b => exact ⟨_, _, rfl, a, b⟩
theorem tup_of {K : PySem.W.Frag} {F : Hp} {v : V} {ds : List D} (h : Dp K F v (.tuple ds)) : ∃ a xs, v = .ref a ∧ SqT K F a xs ∧ DpAll K F xs ds := by cases h with | tup a b => exact ⟨_, _, rfl, a, b⟩

/-! ### + -/
theorem Inv.rdL {pins : List (Addr × Obj)} {σ : L2.St} {H : Hp} {s : Shared} {a : Addr} {xs : List V} (I : Inv X pins σ H s) (h : Rd H a (.lst xs)) : xs.length ≤ sizeLine ∧ ∃ (its : List Value) (n : Nat), Vals xs its ∧ s.heap.get? a = some { cls := .type "list", data := .seq its.toArray n } := h.ok I.hok
theorem op_catR : OpR X (binaryOp .Add) (fun x y H Q => ∃ l b xs zs, x = .ref l ∧ y = .ref b ∧ Rd H l (.lst xs) ∧ Rd H b (.lst zs) ∧ xs.length + zs.length ≤ sizeLine ∧ ∀ p, H p = none → Q (.ref p) (upd H p (.lst (xs ++ zs)))) := by
  intro pins s σ H x y
  intro v u Q I rx ry h
  obtain ⟨l, b, xs, zs, rfl,
                                                                                                                rfl, hH, hB, hz, q⟩ := h
  cases rx
  cases ry
  obtain ⟨z, its, n, r, e⟩ := Inv.rdL I hH
  obtain ⟨z2, its2, n2, r2, e2⟩ := Inv.rdL I hB
  have l1 := r.length
  have l2 := r2.length
  refine PySem.P.add_list e e2 ?_
                                                                                                                (by rw [List.size_toArray, List.size_toArray]; omega)
  rw [show its.toArray ++ its2.toArray = (its ++ its2).toArray by simp]
  exact ⟨.ref _, _, I.lnew (t' := s.toks) (r.append r2)
                                                                                                                (by rw [List.length_append]; omega), rfl, q _ I.fresh⟩
def dAdd : D → D → Option Sl
  | .int i, .int j => some (.val (.int (i + j)))
  | .str i, .str j => if i.length + j.length ≤ LIM then some (.val (.str (i ++ j))) else none
  | .tuple xs, .tuple ys => if xs.length + ys.length ≤ LIM then some (.val (.tuple (xs ++ ys))) else none
  | .list xs, .list ys => if xs.length + ys.length ≤ LIM then some (.own false (xs ++ ys)) else none
  | _, _ => none
@[simp] theorem dAdd_int (i j : Int) : dAdd (.int i) (.int j) = some (.val (.int (i + j))) := rfl
theorem or4 {f : Value → Value → Sem Value} {r1 r2 r3 r4 : R2} (h1 : OpR X f r1) (h2 : OpR X f r2) (h3 : OpR X f r3) (h4 : OpR X f r4) : OpR X f (fun x y H Q => r1 x y H Q ∨ r2 x y H Q ∨ r3 x y H Q ∨ r4 x y H Q) := h1.or (h2.or (h3.or h4))
theorem ov_of {f : Value → Value → Sem Value} {r : R2} {o : D → D → Option Sl} (h : OpR X f r) (w : ∀ x y H Q F a b, Same F H → Dp X.K F x a → Dp X.K F y b → Kd X.K F H Q (o a b) → r x y H Q) : OV X f o :=
  fun pins s σ H x y v u Q I rx ry ⟨F, a, b, s0, ra, rb, k⟩ => h pins s σ H x y v u Q I rx ry (w x y H Q F a b s0 ra rb k)
theorem ov_add : OV X (binaryOp .Add) dAdd := ov_of (or4 op_add op_add_str op_catA op_catR) fun x y H Q F a b s ra rb k => by
  unfold dAdd at k
  split at k
  · rename_i i j
    rw [int_of ra, int_of rb]
    exact .inl ⟨i, j, rfl, rfl, k.val s (.int _)⟩
  · rename_i i j
    rw [str_of ra, str_of rb]
    split at k
    · rename_i hl
      exact .inr (.inl ⟨i, j, rfl, rfl, lim_line hl, k.val s (.str _)⟩)
    · exact k.elim
  · rename_i xs ys
    split at k
    · rename_i hl
      obtain ⟨a1, us, rfl, h1, r1⟩ := tup_of ra
      obtain ⟨a2, ws, rfl, h2, r2⟩ := tup_of rb
      refine .inr (.inr (.inl ⟨a1, a2, us, ws, rfl, rfl, sqT_mono s h1, sqT_mono s h2, by rw [dps_len r1, dps_len r2]; exact lim_line hl, fun e => ?_, fun _ e => ?_, fun _ _ => k.tup s (dps_app r1 r2)⟩))
      · subst e
        cases r1
        exact k.val s (.tup h2 r2)
      · subst e
        cases r2
        rw [List.append_nil] at k
        exact k.val s (.tup h1 r1)
    · exact k.elim
  · rename_i xs ys
    split at k
    · rename_i hl
      obtain ⟨a1, us, rfl, h1, r1⟩ := lst_of ra
      obtain ⟨a2, ws, rfl, h2, r2⟩ := lst_of rb
      exact .inr (.inr (.inr ⟨a1, a2, us, ws, rfl, rfl, rd_mono s h1, rd_mono s h2, by rw [dps_len r1, dps_len r2]; exact lim_line hl, k.lst s (dps_app r1 r2)⟩))
    · exact k.elim
  · exact k.elim

/-! ### ints -/
def dSub : D → D → Option Sl
  | .int i, .int j => some (.val (.int (i - j)))
  | _, _ => none
@[simp] theorem dSub_int (i j : Int) : dSub (.int i) (.int j) = some (.val (.int (i - j))) := rfl
theorem ov_sub : OV X (binaryOp .Sub) dSub := ov_of op_sub fun x y H Q F a b s ra rb k => by
  unfold dSub at k
  split at k
  · rename_i i j
    rw [int_of ra, int_of rb]
    exact ⟨i, j, rfl, rfl, k.val s (.int _)⟩
  · exact k.elim
/-- a product: both factors small enough -/
def mulOk (i j : Int) : Prop := i.natAbs.log2 + j.natAbs.log2 < 1000000 ∨ (-(2 ^ 64) < i ∧ i < 2 ^ 64) ∨ (-(2 ^ 64) < j ∧ j < 2 ^ 64)
instance (i j : Int) : Decidable (mulOk i j) := inferInstanceAs (Decidable (_ ∨ _))
theorem rep_flat_len {α : Type} (xs : List α) (n : Nat) : (List.replicate n xs).flatten.length = n * xs.length := by simp [List.length_flatten, List.map_replicate]
theorem dps_rep {K : PySem.W.Frag} {F : Hp} {us : List V} {xs : List D} (r : DpAll K F us xs) : ∀ n, DpAll K F (List.replicate n us).flatten (List.replicate n xs).flatten
  | 0 => .nil
  | n + 1 => by
    rw [List.replicate_succ, List.replicate_succ,
                                                                                                                  List.flatten_cons, List.flatten_cons]
    exact dps_app r (dps_rep r n)
theorem op_repR : OpR X (binaryOp .Mult) (fun x y H Q => ∃ l k xs, x = .ref l ∧ y = .int k ∧ Rd H l (.lst xs) ∧ -(2 ^ 63) ≤ k ∧ k < 2 ^ 63 ∧ xs.length * k.toNat ≤ sizeLine ∧ ∀ p, H p = none → Q (.ref p) (upd H p (.lst (List.replicate k.toNat xs).flatten))) := by
  intro pins s σ H x y
  intro v u Q I rx ry h
  obtain ⟨l, k, xs, rfl,
                                                                                                                rfl, hH, h1, h2, hz, q⟩ := h
  rcases hH with hH | ⟨ob, hH⟩
  · exact op_rep pins s σ H _ _ v u Q I rx ry ⟨l, k, xs, rfl, rfl, hH, h1, h2, hz, q⟩
  · -- locked: the same object
    cases rx
    obtain ⟨t, rfl⟩ := ry
    obtain ⟨z, its, n, r, e⟩ := Inv.rdL I (.inr ⟨ob, hH⟩)
    have hl := r.length
    have hlen : its.toArray.size * k.toNat ≤ sizeLine :=
                                                                                                                  by rw [List.size_toArray, ← hl]; exact hz
    have hcap : ¬ its.toArray.size * k.toNat >
                                                                                                                  (2 ^ 63 - 1) / 8 := by
      have : (sizeLine : Nat) ≤
                                                                                                                    (2 ^ 63 - 1) / 8 := by decide
      omega
    have hnew : List.foldl (fun x1 x2 => x1 ++ x2) #[] (List.replicate
                                                                                                                  (if its.toArray.isEmpty = true then 0 else k.toNat) its.toArray) = (List.replicate k.toNat its).flatten.toArray := by
      have f0 := foldl_rep its
      cases its with
      | nil => simp
      | cons a r' => rw [if_neg (by simp)]; exact (f0 k.toNat []).trans (by rw [List.nil_append])
    refine wpAny_binaryOp_repeat_ref (T := "list") (U := "int") (by decide) ⟨_, e, rfl⟩ (fun s' =>
                                                                                                                  typeIs_int s' k t) noFill_list_mul F.fills_int_mul F.slot_int_rmul repeat_list F.slot_int_index.lookup
      (call_meets F.slot_int_rmul (typeIs_int s k t) F.entry_int_rmul
                                                                                                                    (F.args_int_rmul_2 _ _) (int___rmul___int_list k t l its.toArray n)
        ⟨e, rfl, ⟨_, e, rfl⟩, call_meets F.slot_list_mul ⟨_, e, rfl⟩ F.entry_list_mul (F.args_list_mul_2 _ _) (AutoListH.list___mul___list_int_3 l its.toArray n k t (by rw [fitsIndex_both h1 h2]; exact Bool.false_ne_true) hcap (by rw [notLongL hlen]; exact Bool.false_ne_true)) ⟨e, ?_⟩⟩)
    rw [hnew]
    exact ⟨.ref _, _, I.lnew (t' := s.toks) (r.rep k.toNat) (by rw [rep_flat_len, Nat.mul_comm]; exact hz), rfl, q _ I.fresh⟩
def dMul : D → D → Option Sl
  | .int i, .int j => if mulOk i j then some (.val (.int (i * j))) else none
  | .list xs, .int k => if k.natAbs < 1000000 ∧ xs.length * k.toNat ≤ LIM then some (.own false (List.replicate k.toNat xs).flatten) else none
  | .tuple xs, .int k => if xs ≠ [] ∧ 2 ≤ k ∧ k ≤ 1000 ∧ xs.length ≤ 1000 then some (.val (.tuple (List.replicate k.toNat xs).flatten)) else none
  | _, _ => none
@[simp] theorem dMul_int (i j : Int) : dMul (.int i) (.int j) = if mulOk i j then some (.val (.int (i * j))) else none := rfl
theorem ov_mul : OV X (binaryOp .Mult) dMul := ov_of (or4 op_mulW op_repR op_repT op_mul) fun x y H Q F a b s ra rb k => by
  unfold dMul at k
  split at k
  · rename_i i j
    rw [int_of ra, int_of rb]
    split at k
    · rename_i hm
      rcases hm with hm | hm
      · exact .inl ⟨i, j, rfl, rfl, hm, k.val s (.int _)⟩
      · exact .inr (.inr (.inr ⟨i, j, rfl, rfl, hm, k.val s (.int _)⟩))
    · exact k.elim
  · rename_i xs n
    split at k
    · rename_i hl
      obtain ⟨a1, us, rfl, h1, r1⟩ := lst_of ra
      rw [int_of rb]
      exact .inr (.inl ⟨a1, n, us, rfl, rfl, rd_mono s h1, by omega, by omega, by rw [dps_len r1]; exact lim_line hl.2, k.lst s (dps_rep r1 _)⟩)
    · exact k.elim
  · rename_i xs n
    split at k
    · rename_i hl
      obtain ⟨a1, us, rfl, h1, r1⟩ := tup_of ra
      rw [int_of rb]
      refine .inr (.inr (.inl ⟨a1, n, us, rfl, rfl, sqT_mono s h1, fun e => hl.1 ?_, hl.2.1, hl.2.2.1, by rw [dps_len r1]; exact hl.2.2.2, k.tup s (dps_rep r1 _)⟩))
      subst e
      cases r1
      rfl
    · exact k.elim
  · exact k.elim
def CDivS (i j : Int) : Prop := j ≠ 0 ∧ j.natAbs.log2 < 9000
theorem op_fdivS : OpR X (binaryOp .FloorDiv) (rI CDivS fun i j => .int (i.fdiv j)) := opI fun _ _ _ _ _ _ _ hc q => floordiv_int hc.1 q (.inl (PyProof.noPylong_of_log2 hc.2))
def dFdiv : D → D → Option Sl
  | .int i, .int j => if j ≠ 0 ∧ j.natAbs.log2 < 9000 then some (.val (.int (i.fdiv j))) else none
  | _, _ => none
@[simp] theorem dFdiv_int (i j : Int) : dFdiv (.int i) (.int j) = if j ≠ 0 ∧ j.natAbs.log2 < 9000 then some (.val (.int (i.fdiv j))) else none := rfl
theorem ov_fdiv : OV X (binaryOp .FloorDiv) dFdiv := ov_of op_fdivS fun x y H Q F a b s ra rb k => by
  unfold dFdiv at k
  split at k
  · rename_i i j
    rw [int_of ra, int_of rb]
    split at k
    · rename_i hm
      exact ⟨i, j, rfl, rfl, hm, k.val s (.int _)⟩
    · exact k.elim
  · exact k.elim
def dMod : D → D → Option Sl
  | .int i, .int j => if j ≠ 0 then some (.val (.int (i.fmod j))) else none
  | _, _ => none
@[simp] theorem dMod_int (i j : Int) : dMod (.int i) (.int j) = if j ≠ 0 then some (.val (.int (i.fmod j))) else none := rfl
theorem ov_mod : OV X (binaryOp .Mod) dMod := ov_of op_modN fun x y H Q F a b s ra rb k => by
  unfold dMod at k
  split at k
  · rename_i i j
    rw [int_of ra, int_of rb]
    split at k
    · rename_i hm
      exact ⟨i, j, rfl, rfl, hm, k.val s (.int _)⟩
    · exact k.elim
  · exact k.elim
def dPow : D → D → Option Sl
  | .int i, .int j => if 0 ≤ j ∧ j ≤ 1000 ∧ i.natAbs < 1000000 then some (.val (.int (i ^ j.toNat))) else none
  | _, _ => none
@[simp] theorem dPow_int (i j : Int) : dPow (.int i) (.int j) = if 0 ≤ j ∧ j ≤ 1000 ∧ i.natAbs < 1000000 then some (.val (.int (i ^ j.toNat))) else none := rfl
theorem ov_pow : OV X (binaryOp .Pow) dPow := ov_of op_pow fun x y H Q F a b s ra rb k => by
  unfold dPow at k
  split at k
  · rename_i i j
    rw [int_of ra, int_of rb]
    split at k
    · rename_i hm
      exact ⟨i, j, rfl, rfl, ⟨hm.1, by omega, by omega⟩, k.val s (.int _)⟩
    · exact k.elim
  · exact k.elim
theorem uv_of {f : Value → Sem Value} {r : V → Hp → VK → Prop} {o : D → Option Sl} (h : UnR X f r) (w : ∀ x H Q F a, Same F H → Dp X.K F x a → Kd X.K F H Q (o a) → r x H Q) : UV X f o :=
  fun pins s σ H x v Q I rx ⟨F, a, s0, ra, k⟩ => h pins s σ H x v Q I rx (w x H Q F a s0 ra k)
def dNeg : D → Option Sl
  | .int i => some (.val (.int (-i)))
  | _ => none
@[simp] theorem dNeg_int (i : Int) : dNeg (.int i) = some (.val (.int (-i))) := rfl
theorem uv_neg : UV X (unaryOp .USub) dNeg := uv_of un_neg fun x H Q F a s ra k => by
  unfold dNeg at k
  split at k
  · rename_i i
    rw [int_of ra]
    exact ⟨i, rfl, k.val s (.int _)⟩
  · exact k.elim

/-! ### comparisons -/
def dCmp (p : Int → Int → Bool) : D → D → Option Sl
  | .int i, .int j => some (.val (.bool (p i j)))
  | _, _ => none
@[simp] theorem dCmp_int (p : Int → Int → Bool) (i j : Int) : dCmp p (.int i) (.int j) = some (.val (.bool (p i j))) := rfl
theorem rd_cmp {p : Int → Int → Bool} {x y : V} {H : Hp} {Q : VK} {F : Hp} {a b : D} (s : Same F H) (ra : Dp X.K F x a) (rb : Dp X.K F y b) (k : Kd X.K F H Q (dCmp p a b)) : rI0 (fun i j => .bl (p i j)) x y H Q := by
  unfold dCmp at k
  split at k
  · rename_i i j
    rw [int_of ra, int_of rb]
    exact ⟨i, j, rfl, rfl, k.val s (.bl _)⟩
  · exact k.elim
theorem ov_lt : OV X (compareOp .Lt) (dCmp fun i j => decide (i < j)) := ov_of op_lt fun x y H Q F a b s ra rb k => rd_cmp s ra rb k
theorem ov_le : OV X (compareOp .LtE) (dCmp fun i j => decide (i ≤ j)) := ov_of op_le fun x y H Q F a b s ra rb k => rd_cmp s ra rb k
theorem ov_gt : OV X (compareOp .Gt) (dCmp fun i j => decide (j < i)) := ov_of op_gt fun x y H Q F a b s ra rb k => rd_cmp s ra rb k
theorem ov_ge : OV X (compareOp .GtE) (dCmp fun i j => decide (j ≤ i)) := ov_of op_ge fun x y H Q F a b s ra rb k => rd_cmp s ra rb k
/-- lists of unlike lengths: no item is looked at -/
def lenNe (r : Bool) : D → D → Option Sl
  | .list xs, .list ys => if xs.length ≠ ys.length then some (.val (.bool r)) else none
  | _, _ => none
def rLen (K : PySem.W.Frag) (r : Bool) : R2 := fun x y H Q => ∃ a b xs ys, x = .ref a ∧ y = .ref b ∧ SqL K H a xs ∧ SqL K H b ys ∧ xs.length ≠ ys.length ∧ Q (.bl r) H
theorem op_eqLen (hu : X.A.units < cLine) : OpR X (compareOp .Eq) (rLen X.K false) := by
  intro pins s σ H x y
  intro v u Q I rx ry h
  obtain ⟨a, b, xs, ys, rfl, rfl, ha, hb, hl, q⟩ := h
  cases
                                                                                                                (show v = Value.ref a from rx)
  cases
                                                                                                                (show u = Value.ref b from ry)
  obtain ⟨us, r1,
                                                                                                                p1, _⟩ := I.list ha
  obtain ⟨ws, r2,
                                                                                                                p2, _⟩ := I.list hb
  have hsz : (us.toArray.size != ws.toArray.size) = true := by
    rw [List.size_toArray, List.size_toArray,
                                                                                                                  ← r1.length, ← r2.length]
    exact bne_iff_ne.mpr hl
  exact SeqAt.eq_list_lengthsAt p1.isList p2.isList hsz hu ⟨.bl _, H, I, rfl, q⟩
theorem op_neLen (hu : X.A.units < cLine) : OpR X (compareOp .NotEq) (rLen X.K true) := by
  intro pins s σ H x y
  intro v u Q I rx ry h
  obtain ⟨a, b, xs, ys, rfl, rfl, ha, hb, hl, q⟩ := h
  cases
                                                                                                                (show v = Value.ref a from rx)
  cases
                                                                                                                (show u = Value.ref b from ry)
  obtain ⟨us, r1,
                                                                                                                p1, _⟩ := I.list ha
  obtain ⟨ws, r2,
                                                                                                                p2, _⟩ := I.list hb
  have hsz : (us.toArray.size != ws.toArray.size) = true := by
    rw [List.size_toArray, List.size_toArray,
                                                                                                                  ← r1.length, ← r2.length]
    exact bne_iff_ne.mpr hl
  exact SeqAt.RcNeAt.lists_lengths p1.isList p2.isList hsz hu X.prog X.w _ _ ⟨.bl _, H, I, rfl, q⟩
theorem rd_len {x y : V} {H : Hp} {Q : VK} {F : Hp} {a b : D} {r : Bool} (s : Same F H) (ra : Dp X.K F x a) (rb : Dp X.K F y b) (k : Kd X.K F H Q (lenNe r a b)) : rLen X.K r x y H Q := by
  unfold lenNe at k
  split at k
  · obtain ⟨a1, us, rfl, h1, r1⟩ := lst_of ra
    obtain ⟨a2, ws, rfl, h2, r2⟩ := lst_of rb
    split at k
    · rename_i hl
      exact ⟨a1, a2, us, ws, rfl, rfl, .inl (rd_mono s h1), .inl (rd_mono s h2), by rw [dps_len r1, dps_len r2]; exact hl, k.val s (.bl _)⟩
    · exact k.elim
  · exact k.elim
def dEq : D → D → Option Sl
  | .str x, .str y => some (.val (.bool (decide (x = y))))
  | a, b => if SeqAt.shaped a = true ∧ SeqAt.shaped b = true then some (.val (.bool (PyData.eqv a b))) else lenNe false a b
def dNe : D → D → Option Sl
  | .str x, .str y => some (.val (.bool (!decide (x = y))))
  | a, b => if SeqAt.shaped a = true ∧ SeqAt.shaped b = true then some (.val (.bool (!PyData.eqv a b))) else lenNe true a b
theorem vstr_iff {x y : Str} : decide (V.str x = V.str y) = decide (x = y) := by
  by_cases h : x = y
  · subst h; simp
  · rw [decide_eq_false h]
    exact decide_eq_false fun e => h (V.str.inj e)
theorem ov_eq (hr : RoomG 0 X.A) : OV X (compareOp .Eq) dEq := ov_of (OpR.or (op_eqD (Nat.lt_of_le_of_lt (Nat.le_refl _) hr.r.units)) (OpR.or L2.op_eq (op_eqLen (Nat.lt_of_le_of_lt (Nat.le_add_right _ _) hr.r.units)))) fun x y H Q F a b s ra rb k => by
  unfold dEq at k
  split at k
  · rw [str_of ra, str_of rb]
    exact .inr (.inl ⟨rfl, by rw [vstr_iff]; exact k.val s (.bl _)⟩)
  · split at k
    · rename_i h
      exact .inl ⟨a, b, (dp_mono s ra).l2 (noDict_lay (SeqAt.canLay_of_shaped h.1)), (dp_mono s rb).l2 (noDict_lay (SeqAt.canLay_of_shaped h.2)), h.1, h.2, k.val s (.bl _)⟩
    · exact .inr (.inr (rd_len s ra rb k))
theorem ov_ne (hr : RoomG 0 X.A) : OV X (compareOp .NotEq) dNe := ov_of (OpR.or (op_neD (Nat.lt_of_le_of_lt (Nat.le_refl _) hr.r.units)) (OpR.or L2.op_ne (op_neLen (Nat.lt_of_le_of_lt (Nat.le_add_right _ _) hr.r.units)))) fun x y H Q F a b s ra rb k => by
  unfold dNe at k
  split at k
  · rw [str_of ra, str_of rb]
    exact .inr (.inl ⟨rfl, by rw [vstr_iff]; exact k.val s (.bl _)⟩)
  · split at k
    · rename_i h
      exact .inl ⟨a, b, (dp_mono s ra).l2 (noDict_lay (SeqAt.canLay_of_shaped h.1)), (dp_mono s rb).l2 (noDict_lay (SeqAt.canLay_of_shaped h.2)), h.1, h.2, k.val s (.bl _)⟩
    · exact .inr (.inr (rd_len s ra rb k))
/-- is None, is of two bools -/
def dIs : D → D → Option Sl
  | .bool a, .bool b => some (.val (.bool (decide (a = b))))
  | .none, .none => some (.val (.bool true))
  | _, .none => some (.val (.bool false))
  | _, _ => none
def dIsnt : D → D → Option Sl
  | .bool a, .bool b => some (.val (.bool (!decide (a = b))))
  | .none, .none => some (.val (.bool false))
  | _, .none => some (.val (.bool true))
  | _, _ => none
theorem non_iff {K : PySem.W.Frag} {F : Hp} {x : V} {a : D} (r : Dp K F x a) (h : a ≠ .none) : decide (x = V.non) = false := by
  refine decide_eq_false fun e => ?_
  subst e
  cases r
  exact h rfl
theorem ov_isnt : OV X (compareOp .IsNot) dIsnt := ov_of (OpR.or op_notBl op_notN) fun x y H Q F a b s ra rb k => by
  unfold dIsnt at k
  split at k
  · rename_i c d
    rw [bl_of ra, bl_of rb]
    exact .inl ⟨c, d, rfl, rfl, k.val s (.bl _)⟩
  · cases ra
    cases rb
    exact .inr ⟨rfl, k.val s (.bl _)⟩
  · rename_i h1 h2
    cases rb
    exact .inr ⟨rfl, by rw [non_iff ra h2]; exact k.val s (.bl _)⟩
  · exact k.elim
end
end Mv

namespace Mv
open L2 PySem.Spec PySem PyProof.Rows

section
variable {X : Cx}
/-! ### items, slices -/
def optV (o : Option D) : Option Sl := o.map Sl.val
@[simp] theorem optV_some (d : D) : optV (some d) = some (.val d) := rfl
@[simp] theorem optV_none : optV none = none := rfl
def dIx : D → D → Option Sl
  | .list xs, .int i => optV (atI xs i)
  | .tuple xs, .int i => optV (atI xs i)
  | .str z, .int i => if z.length ≤ LIM then optV ((atI z.cps.toList i).map fun c => .str ⟨#[c]⟩) else none
  | _, _ => none
@[simp] theorem dIx_list (xs : List D) (i : Int) : dIx (.list xs) (.int i) = optV (atI xs i) := rfl
@[simp] theorem dIx_tuple (xs : List D) (i : Int) : dIx (.tuple xs) (.int i) = optV (atI xs i) := rfl
theorem dps_atI {K : PySem.W.Frag} {F : Hp} {vs : List V} {ds : List D} (r : DpAll K F vs ds) {i : Int} {d : D} (h : atI ds i = some d) : ∃ v, atI vs i = some v ∧ Dp K F v d := by
  obtain ⟨j, h1, h2⟩ := Option.bind_eq_some_iff.mp h
  have hl := dps_len r
  have hj : j < vs.length := by rw [hl]; exact (List.getElem?_eq_some_iff.mp h2).1
  refine ⟨vs[j], ?_, dps_get r (List.getElem?_eq_getElem hj) h2⟩
  unfold atI
  rw [hl, h1]
  exact List.getElem?_eq_getElem hj
theorem iv_of {r : R2} {o : D → D → Option Sl} (h : IxR X r) (w : ∀ x y H Q F a b, Same F H → Dp X.K F x a → Dp X.K F y b → Kd X.K F H Q (o a b) → r x y H Q) : IV X o :=
  fun value slice pins s σ H x y v u Q I rx ry ⟨F, a, b, s0, ra, rb, k⟩ => h value slice pins s σ H x y v u Q I rx ry (w x y H Q F a b s0 ra rb k)
theorem rd_ix {x y : V} {H : Hp} {Q : VK} {F : Hp} {a b : D} (s : Same F H) (ra : Dp X.K F x a) (rb : Dp X.K F y b) (k : Kd X.K F H Q (dIx a b)) : rIx X.K x y H Q := by
  unfold dIx at k
  split at k
  · rename_i xs i
    cases h : atI xs i with
    | none => rw [h] at k; exact k.elim
    | some d =>
      rw [h] at k
      obtain ⟨a1, us, rfl, h1, r1⟩ := lst_of ra
      obtain ⟨v, e1, rv⟩ := dps_atI r1 h
      rw [int_of rb]
      exact .inl ⟨a1, us, i, v, rfl, rfl, .inl (rd_mono s h1), e1, k.val s rv⟩
  · rename_i xs i
    cases h : atI xs i with
    | none => rw [h] at k; exact k.elim
    | some d =>
      rw [h] at k
      obtain ⟨a1, us, rfl, h1, r1⟩ := tup_of ra
      obtain ⟨v, e1, rv⟩ := dps_atI r1 h
      rw [int_of rb]
      exact .inr (.inl ⟨a1, us, i, v, rfl, rfl, sqT_mono s h1, e1, k.val s rv⟩)
  · rename_i z i
    split at k
    · rename_i hl
      cases h : atI z.cps.toList i with
      | none => rw [h] at k; exact k.elim
      | some c =>
        rw [h] at k
        rw [str_of ra, int_of rb]
        exact .inr (.inr ⟨z, i, c, rfl, rfl, lim_line hl, h, k.val s (.str _)⟩)
    · exact k.elim
  · exact k.elim
theorem iv_ix : IV X dIx := iv_of ix_seq fun x y H Q F a b s ra rb k => rd_ix s ra rb k
/-- x[e], x a name: an own list stays own -/
def vIxv (i : Nat) (f : M Sl) : M Sl := fun en => match en[i]? with
  | some (.val d) => (vD f en).bind fun k e => opt (dIx d k) e
  | some (.own _ _) => (vD f en).bind fun k e => ownE i e fun _ xs => opt (dIx (.list xs) k) e
  | _ => .bad
theorem ve_ixv {W : WX} {i : Nat} {x : Str} {p pos : Pos} {b : Expr} {f : M Sl} (hb : VE X W b f) (hN : X.N[i]? = some x := by rfl) (hv : Vis X.env.scope x := by first | exact Or.inl rfl | exact Or.inr (Or.inl rfl) | exact Or.inr (Or.inr rfl)) (hd : (x == ("__debug__" : Str)) = false := by decide)
    (hcd : (x == ("__classdict__" : Str)) = false := by decide) (hs : PlainIx b := by exact fun _ _ => rfl) : VE X W (.Subscript (.Name x p) b pos) (vIxv i f) := fun B =>
  peWk (pe_ix ix_seq (pe_var hN hv hd hcd) (hb.d B) hs) fun σ H Q ⟨F, en, S, q⟩ => by
    unfold vIxv at q
    split at q
    · rename_i d h
      obtain ⟨v, h1, h2⟩ := S.val i d h
      exact ⟨v, h1, F, en, S, (Post.bind q).imp fun k en1 F1 H1 S1 s1 q1 y ry => rd_ix S1.sub (dp_mono s1 h2) ry (Post.opt S1 q1)⟩
    · rename_i b0 xs0 h
      obtain ⟨a0, vs0, e0, _⟩ := S.slotL h
      refine ⟨_, e0, F, en, S, (Post.bind q).imp fun k en1 F1 H1 S1 s1 q1 y ry => ?_⟩
      unfold ownE at q1
      split at q1
      · rename_i b1 xs h1
        obtain ⟨a1, vs, e1, l1, r1, _⟩ := S1.slotL h1
        rw [e0] at e1
        cases e1
        dsimp only at q1
        have kd := Post.opt S1 q1
        unfold dIx at kd
        split at kd
        · rename_i ys j hy
          cases hy
          cases hat : atI xs j with
          | none => rw [hat] at kd; exact kd.elim
          | some d =>
            rw [hat] at kd
            obtain ⟨v, e2, rv⟩ := dps_atI r1 hat
            rw [int_of ry]
            exact .inl ⟨_, vs, j, v, rfl, rfl, .inl (.inl l1), e2, kd.val S1.sub rv⟩
        · rename_i hy; cases hy
        · rename_i hy; cases hy
        · exact kd.elim
      · exact q1.elim
    · exact q.elim

/-- a part of a slice -/
def VO (X : Cx) (W : WX) (e : Option Expr) (f : M (Option Int)) : Prop := ∀ B, PO X e (fun σ H Q => ∃ F en, Sim X.K B σ en F H ∧ Post X.K X.mg B W σ F (fun o _ _ H' => Q o H') (f en))
def oNone : M (Option Int) := fun en => .ok none en
def oSome (f : M Sl) : M (Option Int) := fun en => (vD f en).bind fun d e => match d with
  | .int i => .ok (some i) e
  | _ => .bad
theorem poWk {e : Option Expr} {t t' : TO} (h : PO X e t) (w : ∀ σ H Q, t' σ H Q → t σ H Q) : PO X e t' := ⟨fun pins s σ H Q I q => h.run pins s σ H Q I (w _ _ _ q)⟩
theorem vo_none {W : WX} : VO X W none oNone := fun B => poWk po_none fun σ H Q ⟨F, en, S, p⟩ => p F H S (.refl _)
theorem vo_some {W : WX} {e : Expr} {f : M Sl} (h : VE X W e f) : VO X W (some e) (oSome f) := fun B => poWk (po_some (h.d B)) fun σ H Q ⟨F, en, S, p⟩ => by
  refine ⟨F, en, S, (Post.bind p).imp fun d en1 F1 H1 S1 s1 q v rv => ?_⟩
  cases d with
  | int i =>
    cases rv
    exact ⟨i, rfl, q F1 H1 S1 (.refl _)⟩
  | _ => exact q.elim
def cutD (xs : List D) (lo hi : Option Int) : List D := (xs.drop (HT.sIx xs.length 0 lo)).take (HT.sIx xs.length xs.length hi - HT.sIx xs.length 0 lo)
theorem dps_cut {K : PySem.W.Frag} {F : Hp} {us : List V} {xs : List D} (r : DpAll K F us xs) (lo hi : Option Int) : DpAll K F (cutV us lo hi) (cutD xs lo hi) := by
  unfold cutV cutD
  rw [dps_len r]
  exact dps_take _ (dps_drop _ r)
def dSl : D → Option Int → Option Int → Option Sl
  | .list xs, lo, hi => some (.own false (cutD xs lo hi))
  | .tuple xs, lo, hi => some (.val (.tuple (cutD xs lo hi)))
  | .str z, lo, hi => if z.length ≤ LIM then some (.val (.str (cutS z lo hi))) else none
  | _, _, _ => none
@[simp] theorem dSl_list (xs lo hi) : dSl (.list xs) lo hi = some (.own false (cutD xs lo hi)) := rfl
@[simp] theorem dSl_tuple (xs lo hi) : dSl (.tuple xs) lo hi = some (.val (.tuple (cutD xs lo hi))) := rfl
theorem rd_sl {x : V} {lo hi : Option Int} {H : Hp} {Q : VK} {F : Hp} {a : D} (s : Same F H) (ra : Dp X.K F x a) (k : Kd X.K F H Q (dSl a lo hi)) : rSlL X.K x lo hi H Q ∨ rSlA X.K x lo hi H Q ∨ rSlS x lo hi H Q := by
  unfold dSl at k
  split at k
  · rename_i xs
    obtain ⟨a1, us, rfl, h1, r1⟩ := lst_of ra
    exact .inl ⟨a1, us, rfl, .inl (rd_mono s h1), k.lst s (dps_cut r1 _ _)⟩
  · rename_i xs
    obtain ⟨a1, us, rfl, h1, r1⟩ := tup_of ra
    refine .inr (.inl ⟨a1, us, rfl, sqT_mono s h1, fun hw => ?_, fun _ => k.tup s (dps_cut r1 _ _)⟩)
    have e : cutD xs lo hi = xs := by
      unfold cutD
      rw [dps_len r1] at hw
      rw [hw.1, hw.2]
      simp
    rw [e] at k
    exact k.val s ra
  · rename_i z
    split at k
    · rename_i hl
      rw [str_of ra]
      exact .inr (.inr ⟨z, rfl, lim_line hl, k.val s (.str _)⟩)
    · exact k.elim
  · exact k.elim
def vSl (f : M Sl) (l h : M (Option Int)) : M Sl := fun en => (vD f en).bind fun d e => (l e).bind fun lo e2 => (h e2).bind fun hi e3 => opt (dSl d lo hi) e3
theorem ve_slice {W : WX} {e : Expr} {lo hi : Option Expr} {p2 pos : Pos} {f : M Sl} {l h : M (Option Int)} (he : VE X W e f) (hl : VO X W lo l) (hh : VO X W hi h) : VE X W (.Subscript e (.Slice lo hi none p2) pos) (vSl f l h) := fun B =>
  peWk (pe_slice (sl_list.or (sl_tupA.or sl_str)) (he.d B) (hl B) (hh B)) fun σ H Q ⟨F, en, S, p⟩ => by
    refine ⟨F, en, S, (Post.bind p).imp fun d en1 F1 H1 S1 s1 q v rv => ?_⟩
    refine ⟨F1, en1, S1, (Post.bind q).imp fun a en2 F2 H2 S2 s2 q2 => ?_⟩
    refine ⟨F2, en2, S2, (Post.bind q2).imp fun b en3 F3 H3 S3 s3 q3 => ?_⟩
    exact rd_sl S3.sub (dp_mono (s2.trans s3) rv) (Post.opt S3 q3)

/-! ### built-ins -/
theorem cv_of {f : Value} {r : List V → Hp → VK → Prop} {o : List D → Option Sl} (h : CallR X f r) (w : ∀ xs H Q F as, Same F H → DpAll X.K F xs as → Kd X.K F H Q (o as) → r xs H Q) : CV X f o :=
  fun pins s σ H xs us Q I rx ⟨F, as, s0, ra, k⟩ => h pins s σ H xs us Q I rx (w xs H Q F as s0 ra k)
def dLen : List D → Option Sl
  | [.list xs] => some (.val (.int xs.length))
  | [.tuple xs] => some (.val (.int xs.length))
  | [.str z] => if z.length ≤ LIM then some (.val (.int z.length)) else none
  | _ => none
theorem dps1 {K : PySem.W.Frag} {F : Hp} {us : List V} {d : D} (r : DpAll K F us [d]) : ∃ u, us = [u] ∧ Dp K F u d := by
  cases r with
  | cons a b => cases b; exact ⟨_, rfl, a⟩
theorem dps2 {K : PySem.W.Frag} {F : Hp} {us : List V} {d d2 : D} (r : DpAll K F us [d, d2]) : ∃ u u2, us = [u, u2] ∧ Dp K F u d ∧ Dp K F u2 d2 := by
  cases r with
  | cons a b =>
    cases b with
    | cons c b => cases b; exact ⟨_, _, rfl, a, c⟩
/-- len(x), x a name: an own list stays own -/
def vLenv (i : Nat) : M Sl := fun en => match en[i]? with
  | some (.val d) => opt (dLen [d]) en
  | some (.own _ xs) => .ok (.val (.int xs.length)) en
  | _ => .bad
theorem ve_lenv {W : WX} {i : Nat} {x : Str} {p p0 pos : Pos} (hg : Gl X "len") (hm : X.mg "len" = none) (hN : X.N[i]? = some x := by rfl) (hv : Vis X.env.scope x := by first | exact Or.inl rfl | exact Or.inr (Or.inl rfl) | exact Or.inr (Or.inr rfl)) (hd : (x == ("__debug__" : Str)) = false := by decide)
    (hcd : (x == ("__classdict__" : Str)) = false := by decide) (he : starEach [.Name x p] X.env = (false, eval (.Name x p) X.env) :: starEach [] X.env := by rfl) : VE X W (.Call (.Name "len" p0) [.Name x p] [] pos) (vLenv i) := fun B =>
  peWk (pe_callB (call_len_seq.or call_len_str) hg hm PySem.boot_len (pa_cons (pe_var hN hv hd hcd) pa_nil he) (by decide) (by decide) he (by rfl)) fun σ H Q ⟨F, en, S, q⟩ => by
    unfold vLenv at q
    split at q
    · rename_i d h
      obtain ⟨v, h1, h2⟩ := S.val i d h
      refine ⟨v, h1, ?_⟩
      have k := Post.opt S q
      unfold dLen at k
      split at k
      · rename_i hh; cases hh
        obtain ⟨a1, us, rfl, h3, r1⟩ := lst_of h2
        exact .inl ⟨a1, us, rfl, .inl (.inl (rd_mono S.sub h3)), by rw [dps_len r1]; exact k.val S.sub (.int _)⟩
      · rename_i hh; cases hh
        obtain ⟨a1, us, rfl, h3, r1⟩ := tup_of h2
        exact .inl ⟨a1, us, rfl, .inr (sqT_mono S.sub h3), by rw [dps_len r1]; exact k.val S.sub (.int _)⟩
      · rename_i z hh; cases hh
        split at k
        · rename_i hl
          rw [str_of h2]
          exact .inr ⟨z, rfl, lim_line hl, k.val S.sub (.int _)⟩
        · exact k.elim
      · exact k.elim
    · rename_i b xs h
      obtain ⟨a, vs, e0, l0, r0, len⟩ := S.slotL h
      exact ⟨_, e0, .inl ⟨a, vs, rfl, .inl (.inl (.inl l0)), q F H S (.refl _) _ (by rw [len]; exact .int _)⟩⟩
    · exact q.elim
def dAbs : List D → Option Sl
  | [.int i] => some (.val (.int (if i < 0 then -i else i)))
  | _ => none
theorem cv_abs : CV X (.builtin "abs") dAbs := cv_of call_abs fun xs H Q F as s ra k => by
  unfold dAbs at k
  split at k
  · rename_i i
    obtain ⟨u, rfl, r⟩ := dps1 ra
    rw [int_of r]
    exact ⟨i, rfl, k.val s (.int _)⟩
  · exact k.elim
def dInt : List D → Option Sl
  | [.int i] => some (.val (.int i))
  | [.bool b] => some (.val (.int (if b then 1 else 0)))
  | _ => none
theorem cv_int : CV X (.type "int") dInt := cv_of call_int1 fun xs H Q F as s ra k => by
  unfold dInt at k
  split at k
  · rename_i i
    obtain ⟨u, rfl, r⟩ := dps1 ra
    rw [int_of r]
    exact .inl ⟨i, rfl, k.val s (.int _)⟩
  · rename_i b
    obtain ⟨u, rfl, r⟩ := dps1 ra
    rw [bl_of r]
    exact .inr ⟨b, rfl, k.val s (.int _)⟩
  · exact k.elim
def dTuple : List D → Option Sl
  | [.list xs] => some (.val (.tuple xs))
  | [.tuple xs] => some (.val (.tuple xs))
  | _ => none
theorem cv_tuple : CV X (.type "tuple") dTuple := cv_of call_tuple_of fun xs H Q F as s ra k => by
  unfold dTuple at k
  split at k
  · obtain ⟨u, rfl, r⟩ := dps1 ra
    obtain ⟨a1, us, rfl, h1, r1⟩ := lst_of r
    exact ⟨a1, us, rfl, .inl ⟨.inl (rd_mono s h1), k.tup s r1⟩⟩
  · obtain ⟨u, rfl, r⟩ := dps1 ra
    obtain ⟨a1, us, rfl, h1, r1⟩ := tup_of r
    exact ⟨a1, us, rfl, .inr ⟨sqT_mono s h1, k.val s r⟩⟩
  · exact k.elim
def dList : List D → Option Sl
  | [.list xs] => some (.own false xs)
  | [.tuple xs] => some (.own false xs)
  | _ => none
theorem cv_list : CV X (.type "list") dList := cv_of call_list_of fun xs H Q F as s ra k => by
  unfold dList at k
  split at k
  · obtain ⟨u, rfl, r⟩ := dps1 ra
    obtain ⟨a1, us, rfl, h1, r1⟩ := lst_of r
    exact ⟨a1, us, rfl, .inl (.inl (rd_mono s h1)), k.lst s r1⟩
  · obtain ⟨u, rfl, r⟩ := dps1 ra
    obtain ⟨a1, us, rfl, h1, r1⟩ := tup_of r
    exact ⟨a1, us, rfl, .inr (sqT_mono s h1), k.lst s r1⟩
  · exact k.elim
/-- the ints, the bools of a list -/
def intsOf : List D → Option (List Int)
  | [] => some []
  | .int i :: ds => (intsOf ds).map (i :: ·)
  | _ :: _ => none
def boolsOf : List D → Option (List Bool)
  | [] => some []
  | .bool i :: ds => (boolsOf ds).map (i :: ·)
  | _ :: _ => none
theorem intsOf_some : ∀ {ds : List D} {ns : List Int}, intsOf ds = some ns → ds = ns.map PyData.int
  | [], ns, h => by cases h; rfl
  | .int i :: ds, ns, h => by
    obtain ⟨ms, h1, rfl⟩ := Option.map_eq_some_iff.mp (show (intsOf ds).map (i :: ·) = some ns from h)
    rw [intsOf_some h1]; rfl
theorem boolsOf_some : ∀ {ds : List D} {ns : List Bool}, boolsOf ds = some ns → ds = ns.map PyData.bool
  | [], ns, h => by cases h; rfl
  | .bool i :: ds, ns, h => by
    obtain ⟨ms, h1, rfl⟩ := Option.map_eq_some_iff.mp (show (boolsOf ds).map (i :: ·) = some ns from h)
    rw [boolsOf_some h1]; rfl
@[simp] theorem intsOf_map (ns : List Int) : intsOf (ns.map PyData.int) = some ns := by
  induction ns with
  | nil => rfl
  | cons n ns ih => show (intsOf (ns.map PyData.int)).map (n :: ·) = _; rw [ih]; rfl
@[simp] theorem boolsOf_map (ns : List Bool) : boolsOf (ns.map PyData.bool) = some ns := by
  induction ns with
  | nil => rfl
  | cons n ns ih => show (boolsOf (ns.map PyData.bool)).map (n :: ·) = _; rw [ih]; rfl
def dAll : List D → Option Sl
  | [.list xs] => (boolsOf xs).map fun bs => .val (.bool (bs.all id))
  | _ => none
theorem cv_all (hc : X.calm = true) : CV X (.builtin "all") dAll := cv_of (cr_all hc) fun xs H Q F as s ra k => by
  unfold dAll at k
  split at k
  · rename_i ys
    obtain ⟨u, rfl, r⟩ := dps1 ra
    obtain ⟨a1, us, rfl, h1, r1⟩ := lst_of r
    cases hb : boolsOf ys with
    | none => rw [hb] at k; exact k.elim
    | some bs =>
      rw [hb] at k
      rw [boolsOf_some hb] at r1
      rw [dps_bools r1] at h1
      exact ⟨a1, bs, rfl, .inl (rd_mono s h1), k.val s (.bl _)⟩
  · exact k.elim
/-- the greatest, the least of ints -/
def maxI : List Int → Int
  | [] => 0
  | n :: ns => ns.foldl max n
def minI : List Int → Int
  | [] => 0
  | n :: ns => ns.foldl min n
theorem foldl_max_ge : ∀ (ns : List Int) (n : Int), n ≤ ns.foldl max n ∧ ∀ y ∈ ns, y ≤ ns.foldl max n
  | [], n => ⟨Int.le_refl _, fun y hy => by cases hy⟩
  | m :: ns, n => by
    obtain ⟨h1, h2⟩ := foldl_max_ge ns (max n m)
    refine ⟨Int.le_trans (Int.le_max_left _ _) h1, fun y hy => ?_⟩
    rcases List.mem_cons.mp hy with
                                                                                                                  rfl | hy
    · exact Int.le_trans (Int.le_max_right _ _) h1
    · exact h2 y hy
theorem foldl_max_mem : ∀ (ns : List Int) (n : Int), ns.foldl max n = n ∨ ns.foldl max n ∈ ns
  | [], n => .inl rfl
  | m :: ns, n => by
    rcases foldl_max_mem ns (max n m) with h | h
    · rw [List.foldl_cons, h]
      rcases Int.le_total n m with q | q
      · rw [Int.max_eq_right q]; exact .inr List.mem_cons_self
      · rw [Int.max_eq_left q]; exact .inl rfl
    · exact .inr (List.mem_cons_of_mem _ h)
theorem foldl_min_le : ∀ (ns : List Int) (n : Int), ns.foldl min n ≤ n ∧ ∀ y ∈ ns, ns.foldl min n ≤ y
  | [], n => ⟨Int.le_refl _, fun y hy => by cases hy⟩
  | m :: ns, n => by
    obtain ⟨h1, h2⟩ := foldl_min_le ns (min n m)
    refine ⟨Int.le_trans h1 (Int.min_le_left _ _), fun y hy => ?_⟩
    rcases List.mem_cons.mp hy with
                                                                                                                  rfl | hy
    · exact Int.le_trans h1 (Int.min_le_right _ _)
    · exact h2 y hy
theorem foldl_min_mem : ∀ (ns : List Int) (n : Int), ns.foldl min n = n ∨ ns.foldl min n ∈ ns
  | [], n => .inl rfl
  | m :: ns, n => by
    rcases foldl_min_mem ns (min n m) with h | h
    · rw [List.foldl_cons, h]
      rcases Int.le_total n m with q | q
      · rw [Int.min_eq_left q]; exact .inl rfl
      · rw [Int.min_eq_right q]; exact .inr List.mem_cons_self
    · exact .inr (List.mem_cons_of_mem _ h)
theorem maxI_spec {ns : List Int} (h : 0 < ns.length) : maxI ns ∈ ns ∧ ∀ y ∈ ns, y ≤ maxI ns := by
  cases ns with
  | nil => cases h
  | cons n ns =>
    obtain ⟨h1, h2⟩ := foldl_max_ge ns n
    refine ⟨?_, fun y hy => ?_⟩
    · rcases foldl_max_mem ns n with e | e
      · show ns.foldl max n ∈ n :: ns
        rw [e]; exact List.mem_cons_self
      · exact List.mem_cons_of_mem _ e
    · rcases List.mem_cons.mp hy with
                                                                                                                    rfl | hy
      · exact h1
      · exact h2 y hy
theorem minI_spec {ns : List Int} (h : 0 < ns.length) : minI ns ∈ ns ∧ ∀ y ∈ ns, minI ns ≤ y := by
  cases ns with
  | nil => cases h
  | cons n ns =>
    obtain ⟨h1, h2⟩ := foldl_min_le ns n
    refine ⟨?_, fun y hy => ?_⟩
    · rcases foldl_min_mem ns n with e | e
      · show ns.foldl min n ∈ n :: ns
        rw [e]; exact List.mem_cons_self
      · exact List.mem_cons_of_mem _ e
    · rcases List.mem_cons.mp hy with
                                                                                                                    rfl | hy
      · exact h1
      · exact h2 y hy
def dMax : List D → Option Sl
  | [.int i, .int j] => some (.val (.int (max i j)))
  | [.list xs] => match intsOf xs with
    | some (n :: ns) => some (.val (.int (maxI (n :: ns))))
    | _ => none
  | _ => none
def dMin : List D → Option Sl
  | [.int i, .int j] => some (.val (.int (min i j)))
  | [.list xs] => match intsOf xs with
    | some (n :: ns) => some (.val (.int (minI (n :: ns))))
    | _ => none
  | _ => none
theorem cv_max (hc : X.calm = true) : CV X (.builtin "max") dMax := cv_of ((call_max2 hc).or (cr_max hc)) fun xs H Q F as s ra k => by
  unfold dMax at k
  split at k
  · rename_i i j
    obtain ⟨u, u2, rfl, r, r2⟩ := dps2 ra
    rw [int_of r, int_of r2]
    refine .inl ⟨i, j, rfl, ?_⟩
    have e : (if j > i then j else i) = max i j := by split <;> omega
    rw [e]
    exact k.val s (.int _)
  · rename_i ys
    obtain ⟨u, rfl, r⟩ := dps1 ra
    obtain ⟨a1, us, rfl, h1, r1⟩ := lst_of r
    split at k
    · rename_i n ns hb
      rw [intsOf_some hb] at r1
      rw [dps_ints r1] at h1
      refine .inr ⟨a1, n :: ns, rfl, .inl (rd_mono s h1), Nat.succ_pos _, fun m hm hle => ?_⟩
      obtain ⟨z1, z2⟩ := maxI_spec (ns := n :: ns) (Nat.succ_pos _)
      rw [show m = maxI (n :: ns) from Int.le_antisymm (z2 m hm) (hle _ z1)]
      exact k.val s (.int _)
    · exact k.elim
  · exact k.elim
theorem cv_min (hc : X.calm = true) : CV X (.builtin "min") dMin := cv_of ((call_min2 hc).or (cr_min hc)) fun xs H Q F as s ra k => by
  unfold dMin at k
  split at k
  · rename_i i j
    obtain ⟨u, u2, rfl, r, r2⟩ := dps2 ra
    rw [int_of r, int_of r2]
    refine .inl ⟨i, j, rfl, ?_⟩
    have e : (if j < i then j else i) = min i j := by split <;> omega
    rw [e]
    exact k.val s (.int _)
  · rename_i ys
    obtain ⟨u, rfl, r⟩ := dps1 ra
    obtain ⟨a1, us, rfl, h1, r1⟩ := lst_of r
    split at k
    · rename_i n ns hb
      rw [intsOf_some hb] at r1
      rw [dps_ints r1] at h1
      refine .inr ⟨a1, n :: ns, rfl, .inl (rd_mono s h1), Nat.succ_pos _, fun m hm hle => ?_⟩
      obtain ⟨z1, z2⟩ := minI_spec (ns := n :: ns) (Nat.succ_pos _)
      rw [show m = minI (n :: ns) from Int.le_antisymm (hle _ z1) (z2 m hm)]
      exact k.val s (.int _)
    · exact k.elim
  · exact k.elim
end
end Mv

namespace Mv
open L2 PySem.Spec PySem PyProof.Rows

section
variable {X : Cx}
/-! ### repr -/
mutual
/-- no lists and dicts within -/
def flatD : D → Bool
  | .none | .bool _ |
                                                                                                                .int _ | .str _ => true
  | .list _ | .dict _ => false
  | .tuple xs => flatDs xs
def flatDs : List D → Bool
  | [] => true
  | x :: xs => flatD x && flatDs xs
end
def flatKv (kvs : List (D × D)) : Bool := kvs.all fun p => flatD p.1 && flatD p.2
/-- what repr is served of: no dict, or a dict of numbers, texts and tuples of them -/
def repB : D → Bool
  | .dict kvs => flatKv kvs
  | d => !d.hasDict
theorem repB_of {d : D} (h : d.hasDict = false) : repB d = true := by
  cases d with
  | dict kvs => simp only [PyData.hasDict] at h; cases h
  | none => simp only [repB, h, Bool.not_false]
  | bool _ => simp only [repB, h, Bool.not_false]
  | int _ => simp only [repB, h, Bool.not_false]
  | str _ => simp only [repB, h, Bool.not_false]
  | list _ => simp only [repB, h, Bool.not_false]
  | tuple _ => simp only [repB, h, Bool.not_false]
def repOk (d : D) : Prop := d.showable = true ∧ d.shown.length ≤ LIM ∧ d.depth ≤ 100 ∧ repB d = true
instance (d : D) : Decidable (repOk d) := inferInstanceAs (Decidable (_ ∧ _ ∧ _ ∧ _))
def dRepr : List D → Option Sl
  | [d] => if repOk d then some (.val (.str d.shown)) else none
  | _ => none
mutual
theorem flat_reads {h : Heap} : ∀ {d : D} {u : Value} {as : List Addr}, flatD d = true → Reads h u d as → as = []
  | .none, _, _, _, .none => rfl
  | .bool _, _, _, _, .bool _ => rfl
  | .int _, _, _, _, .int _ _ => rfl
  | .str _, _, _, _, .str _ _ => rfl
  | .list _, _, _, h, _ => by simp only [flatD] at h; cases h
  | .dict _, _, _, h, _ => by simp only [flatD] at h; cases h
  | .tuple _, _, _, h, .tuple _ _ _ r => flats_reads (by simpa only [flatD] using h) r
theorem flats_reads {h : Heap} : ∀ {ds : List D} {us : List Value} {as : List Addr}, flatDs ds = true → ReadsAll h us ds as → as = []
  | [], _, _, _, .nil => rfl
  | _ :: _, _, _, h, .cons r rs => by
    simp only [flatDs, Bool.and_eq_true] at h
    rw [flat_reads h.1 r, flats_reads h.2 rs]
    rfl
end
def rReprD (X : Cx) : List V → Hp → VK → Prop := fun xs H Q => ∃ v d F, xs = [v] ∧ Same F H ∧ Dp X.K F v d ∧ repOk d ∧ Q (.str d.shown) H
mutual
theorem flat_noDict : ∀ {d : D}, flatD d = true → d.hasDict = false
  | .none, _ => by simp only [PyData.hasDict]
  | .bool _, _ => by simp only [PyData.hasDict]
  | .int _, _ => by simp only [PyData.hasDict]
  | .str _, _ => by simp only [PyData.hasDict]
  | .list _, h => by simp only [flatD] at h; cases h
  | .dict _, h => by simp only [flatD] at h; cases h
  | .tuple _, h => by simp only [PyData.hasDict]; exact flats_noDict (by simpa only [flatD] using h)
theorem flats_noDict : ∀ {ds : List D}, flatDs ds = true → PyData.hasDictAll ds = false
  | [], _ => by simp only [PyData.hasDictAll]
  | d :: ds, h => by
    simp only [flatDs, Bool.and_eq_true] at h
    simp only [PyData.hasDictAll, flat_noDict h.1, flats_noDict h.2, Bool.or_self]
end
theorem dp_reads {pins : List (Addr × Obj)} {σ : L2.St} {H : Hp} {s : Shared} (I : Inv X pins σ H s) {d : D} {v : V} {u : Value} (h : Dp X.K H v d) (f : flatD d = true) (r : RelV v u) : Reads s.heap u d [] := by
  obtain ⟨as, q⟩ := Dp.reads I d v u (h.l2 (flat_noDict f)) r
  have e := flat_reads f q
  subst e
  exact q
theorem reads_key {h : Heap} {k : Key} {v : Value} (r : keyIs k v = true) : Reads h v (keyD k) [] := by
  rcases keyIs_shape r with ⟨i, t, rfl, rfl⟩ | ⟨x, t, rfl, rfl⟩
  · exact .int i t
  · exact .str x t
theorem reads_dK {pins : List (Addr × Obj)} {σ : L2.St} {H : Hp} {s : Shared} (I : Inv X pins σ H s) : ∀ {es : List DictEntry} {ks : List (Key × V)} {vs : List (Key × Value)} {ds : List (D × D)}, DpKv X.K H ks ds → KV ks vs → Pairs (mixKind X.prog X.w) es vs → flatKv ds = true →
    ReadsAll s.heap (es.map (·.key)) (ds.map (·.1)) [] ∧ ReadsAll s.heap (es.map (·.val)) (ds.map (·.2)) []
  | es, _, _, _, .nil, .nil, p, _ => by
    cases p
    exact ⟨.nil, .nil⟩
  | es, _, _, _, .cons r rs, .cons k kk, p, f => by
    rename_i key v ks d ds q vs
    cases p with
    | @cons e kv es kvs p1 p2 p3 =>
    unfold flatKv at f
    simp only [List.all_cons, Bool.and_eq_true] at f
    obtain ⟨h1, h2⟩ := reads_dK I rs kk p3 f.2
    obtain ⟨k1, k2⟩ := k
    have e1 := reads_key (h := s.heap) (k := q.1) (v := e.key) p1
    rw [← k1] at e1
    have e2 : Reads s.heap e.val d [] := by rw [p2]; exact dp_reads I r f.1.2 k2
    exact ⟨.cons (as := []) (bs := []) e1 h1, .cons (as := []) (bs := []) e2 h2⟩
theorem key_all {K : PySem.W.Frag} {H : Hp} : ∀ (ks : List Key), L2.DpAll K H (ks.map kV) (ks.map keyD)
  | [] => .nil
  | .inl i :: ks => .cons (.int i) (key_all ks)
  | .inr x :: ks => .cons (.str x) (key_all ks)
theorem reads_dT {pins : List (Addr × Obj)} {σ : L2.St} {H : Hp} {s : Shared} (I : Inv X pins σ H s) : ∀ {ks : List (List Key × V)} {xs : List (List Key × Addr × Value)} {ds : List (D × D)}, DpTv X.K H ks ds → KT H ks xs → flatKv ds = true →
    ReadsAll s.heap ((xs.map (entryOfKey (tupleKind (mixKind X.prog X.w)))).map (·.key)) (ds.map (·.1)) [] ∧ ReadsAll s.heap ((xs.map (entryOfKey (tupleKind (mixKind X.prog X.w)))).map (·.val)) (ds.map (·.2)) [] 
  | _, _, _, .nil, .nil, _ => ⟨.nil, .nil⟩
  | _, _, _, .cons r rs, .cons k kk, f => by
    rename_i key v ks d ds q xs
    unfold flatKv at f
    simp only [List.all_cons, Bool.and_eq_true] at f
    obtain ⟨h1, h2⟩ := reads_dT I rs kk f.2
    obtain ⟨k1, k2, k3⟩ := k
    obtain ⟨as, e1⟩ := Dp.reads I (.tuple (key.map keyD)) (.ref q.2.1) (.ref q.2.1) (.tup (.inl (.inl k2)) (key_all key)) rfl
    have e0 := flat_reads f.1.1 e1
    subst e0
    exact ⟨.cons (as := []) (bs := []) e1 h1, .cons (as := []) (bs := []) (dp_reads I r f.1.2 k3) h2⟩
theorem call_reprD (hr : RoomG 0 X.A) : CallR X (.builtin "repr") (rReprD X) := by
  intro pins s σ H xs
  intro us Q I r h
  obtain ⟨v, d, F, rfl, s0, dv, ⟨h1, h2, h3, h4⟩, q⟩ := h
  obtain ⟨u, rfl, ru⟩ : ∃ u, us = [u] ∧ RelV v u := by
    cases r with
    | cons a b => cases b; exact ⟨_, rfl, a⟩
  have hun := hr.r.un
  have dH := dp_mono s0 dv
  have hz := lim_line h2
  cases dH with
  | non =>
    cases ru
    exact PySem.P.repr_of_none ⟨.str _, H, I.tok _, ⟨_, rfl⟩, q⟩
  | bl b =>
    cases ru
    refine PySem.P.repr_of_bool ⟨.str _, H, I.tok _, ⟨_, rfl⟩, ?_⟩
    simpa only [PyData.shown] using q
  | int i =>
    obtain ⟨t, rfl⟩ := ru
    refine PySem.P.repr_of_int (by simpa [PyData.showable] using h1) ⟨.str _, H, I.tok _, ⟨_, rfl⟩, ?_⟩
    simpa only [PyData.shown] using q
  | str x =>
    obtain ⟨t, rfl⟩ := ru
    refine PySem.P.repr_of_str ⟨.str _, H, I.tok _, ⟨_, rfl⟩, ?_⟩ (by simpa only [PyData.shown] using hz)
    simpa only [PyData.shown] using q
  | lst r1 r2 =>
    rename_i ds0
    have nd : (PyData.list ds0).hasDict = false := by simpa [repB] using h4
    have dL := (Dp.lst r1 r2).l2 (by simpa [repB] using h4)
    obtain ⟨as, rd⟩ := Dp.reads I _ _ u dL ru
    cases ru
    exact repr_of_reads' rd h1 (PyData.noDict_hsm nd) hr.g (by omega) (fun _ _ e => e) (fun h' t tk hk => ⟨.str _, H, I.kept hk, ⟨t, rfl⟩, q⟩) hz
  | tup r1 r2 =>
    rename_i ds0
    have nd : (PyData.tuple ds0).hasDict = false := by simpa [repB] using h4
    have dL := (Dp.tup r1 r2).l2 nd
    obtain ⟨as, rd⟩ := Dp.reads I _ _ u dL ru
    cases ru
    exact repr_of_reads' rd h1 (PyData.noDict_hsm nd) hr.g (by omega) (fun _ _ e => e) (fun h' t tk hk => ⟨.str _, H, I.kept hk, ⟨t, rfl⟩, q⟩) hz
  | @dic a ks ds r1 r2 =>
    obtain rfl :
                                                                                                                  u = Value.ref a := ru
    have f : flatKv ds = true := by simpa [repB] using h4
    obtain ⟨_, hsys, vs, kv, o, es, ep, g1, g2, g3, g4, g5, g6⟩ := dk_rd I.hok r1
    obtain ⟨q1, q2⟩ := reads_dK I r2 kv g5 f
    have rd : Reads s.heap (.ref a) (.dict ds) ([a] ++ []) := .dict g1 g2.1 g3 q1 q2
    exact repr_of_reads' rd h1 (fun _ z => by
      have z := List.mem_singleton.mp (by simpa using z)
      rw [← z] at hsys
      simp at hsys) hr.g (by omega) (fun _ _ e => e) (fun h' t tk hk => ⟨.str _, H, I.kept hk, ⟨t, rfl⟩, q⟩) hz
  | @dit a ks ds r1 _ r2 =>
    obtain rfl :
                                                                                                                  u = Value.ref a := ru
    have f : flatKv ds = true := by simpa [repB] using h4
    obtain ⟨_, hsys, xs, kt, o, es, ep, g1, g2, g3, g4, g5, g6⟩ := dt_rd I.hok r1
    obtain ⟨q1, q2⟩ := reads_dT I r2 kt f
    rw [← g4] at q1 q2
    have rd : Reads s.heap (.ref a) (.dict ds) ([a] ++ []) := .dict g1 g2.1 g3 q1 q2
    exact repr_of_reads' rd h1 (fun _ z => by
      have z := List.mem_singleton.mp (by simpa using z)
      rw [← z] at hsys
      simp at hsys) hr.g (by omega) (fun _ _ e => e) (fun h' t tk hk => ⟨.str _, H, I.kept hk, ⟨t, rfl⟩, q⟩) hz
  | @sob a C dx nm vs ds r1 r2 _ r3 =>
    have f : flatKv ((.dict [(.int (a : Nat), .none)], .str nm) :: ds) = true := by simpa [repB] using h4
    unfold flatKv at f
    simp only [List.all_cons, Bool.and_eq_true] at f
    exact absurd f.1.1 (by simp [flatD])
  | opq h1 =>
    have f : flatKv [(.list [], .none)] = true := by simpa [repB, opqD] using h4
    unfold flatKv at f
    simp only [List.all_cons, Bool.and_eq_true] at f
    exact absurd f.1.1 (by simp [flatD])
theorem cv_repr (hr : RoomG 0 X.A) : CV X (.builtin "repr") dRepr := cv_of (call_reprD hr) fun xs H Q F as s ra k => by
  unfold dRepr at k
  split at k
  · rename_i d
    obtain ⟨u, rfl, r⟩ := dps1 ra
    split at k
    · rename_i hk
      exact ⟨u, d, F, rfl, s, r, hk, k.val s (.str _)⟩
    · exact k.elim
  · exact k.elim

/-! ### in -/
def rInT (K : PySem.W.Frag) : R2 := fun x y H Q => ∃ d ds, L2.Dp K H x d ∧ L2.Dp K H y (.tuple ds) ∧ SeqAt.shaped d = true ∧ SeqAt.shaped (.tuple ds) = true ∧ Q (.bl (ds.any fun z => PyData.eqv z d)) H
def rNotInT (K : PySem.W.Frag) : R2 := fun x y H Q => ∃ d ds, L2.Dp K H x d ∧ L2.Dp K H y (.tuple ds) ∧ SeqAt.shaped d = true ∧ SeqAt.shaped (.tuple ds) = true ∧ Q (.bl (!ds.any fun z => PyData.eqv z d)) H
theorem canLays_of {ds : List D} (h : SeqAt.shaped (.tuple ds) = true) : PyData.canLayAll0 ds = true := by
  have h' := SeqAt.canLay_of_shaped h
  simpa only [PyData.canLay0] using h'
theorem op_inT (hu : X.A.units + 65 < cLine) : OpR X (compareOp .In) (rInT X.K) := by
  intro pins s σ H x y
  intro v u Q I rx ry h
  obtain ⟨d, ds, hd,
                                                                                                                he, sd, se, q⟩ := h
  obtain ⟨as, r1⟩ :=
                                                                                                                Dp.reads I d x v hd rx
  obtain ⟨bs, r2⟩ := Dp.reads I (.tuple ds) y u he ry
  exact SeqAt.in_tuple_reads r2 r1 (canLays_of se) (SeqAt.canLay_of_shaped sd) (room_in_shaped sd hu) ⟨.bl _, H, I, rfl, q⟩
theorem op_notInT (hu : X.A.units + 65 < cLine) : OpR X (compareOp .NotIn) (rNotInT X.K) := by
  intro pins s σ H x y
  intro v u Q I rx ry h
  obtain ⟨d, ds, hd,
                                                                                                                he, sd, se, q⟩ := h
  obtain ⟨as, r1⟩ :=
                                                                                                                Dp.reads I d x v hd rx
  obtain ⟨bs, r2⟩ := Dp.reads I (.tuple ds) y u he ry
  exact SeqAt.notIn_tuple_reads r2 r1 (canLays_of se) (SeqAt.canLay_of_shaped sd) (room_in_shaped sd hu) ⟨.bl _, H, I, rfl, q⟩
def anyEq (ds : List D) (d : D) : Bool := ds.any fun z => PyData.eqv z d
def dIn : D → D → Option Sl := fun d c => if SeqAt.shaped d = true ∧ SeqAt.shaped c = true then (match c with
  | .list ds => some (.val (.bool (anyEq ds d)))
  | .tuple ds => some (.val (.bool (anyEq ds d)))
  | _ => none) else none
def dNotIn : D → D → Option Sl := fun d c => if SeqAt.shaped d = true ∧ SeqAt.shaped c = true then (match c with
  | .list ds => some (.val (.bool (!anyEq ds d)))
  | .tuple ds => some (.val (.bool (!anyEq ds d)))
  | _ => none) else none
theorem ov_in (hr : RoomG 0 X.A) : OV X (compareOp .In) dIn := ov_of (OpR.or (op_inD (by have := hr.r.un; omega)) (op_inT (by have := hr.r.un; omega))) fun x y H Q F a b s ra rb k => by
  unfold dIn at k
  split at k
  · rename_i h
    split at k
    · exact .inl ⟨a, _, (dp_mono s ra).l2 (noDict_lay (SeqAt.canLay_of_shaped h.1)), (dp_mono s rb).l2 (noDict_lay (SeqAt.canLay_of_shaped h.2)), h.1, h.2, k.val s (.bl _)⟩
    · exact .inr ⟨a, _, (dp_mono s ra).l2 (noDict_lay (SeqAt.canLay_of_shaped h.1)), (dp_mono s rb).l2 (noDict_lay (SeqAt.canLay_of_shaped h.2)), h.1, h.2, k.val s (.bl _)⟩
    · exact k.elim
  · exact k.elim
theorem ov_notIn (hr : RoomG 0 X.A) : OV X (compareOp .NotIn) dNotIn := ov_of (OpR.or (op_notInD (by have := hr.r.un; omega)) (op_notInT (by have := hr.r.un; omega))) fun x y H Q F a b s ra rb k => by
  unfold dNotIn at k
  split at k
  · rename_i h
    split at k
    · exact .inl ⟨a, _, (dp_mono s ra).l2 (noDict_lay (SeqAt.canLay_of_shaped h.1)), (dp_mono s rb).l2 (noDict_lay (SeqAt.canLay_of_shaped h.2)), h.1, h.2, k.val s (.bl _)⟩
    · exact .inr ⟨a, _, (dp_mono s ra).l2 (noDict_lay (SeqAt.canLay_of_shaped h.1)), (dp_mono s rb).l2 (noDict_lay (SeqAt.canLay_of_shaped h.2)), h.1, h.2, k.val s (.bl _)⟩
    · exact k.elim
  · exact k.elim

/-! ### isinstance -/
def tyOf : D → String
  | .none => "NoneType"
  | .bool _ => "bool"
  | .int _ => "int"
  | .str _ => "str"
  | .list _ => "list"
  | .tuple _ => "tuple"
  | .dict _ => "dict"
/-- types, of a locked dict with tuple keys, too -/
inductive TyY (K : PySem.W.Frag) (H : Hp) : V → Value → Prop where
  | x {v : V} {t : Value} : TyX K H v t → TyY K H v t
  | fT {a : Addr} {o : Obj} {kvs : List (List Key × V)} : H a = some (.frz o (.dT kvs)) → TyY K H (.ref a) (.type "dict")
  | raw {a : Addr} {P : Program} {w : World} {xs : List (NestedKey × Addr × Value)} : H a = some (rawN P w a xs) → TyY K H (.ref a) (.type "dict")
theorem kit_of2 {pins : List (Addr × Obj)} {σ : L2.St} {H : Hp} {s : Shared} {x : V} {u t : Value} (I : Inv X pins σ H s) (rx : RelV x u) (ty : TyY X.K H x t) : ∃ P : Heap → Prop, PySem.W.KitX X.K u t P ∧ P s.heap ∧ u ≠ .builtin "__main__.__loader__#opaque" := by
  cases ty with
  | x h => exact kit_of I rx h
  | @fT a o kvs ea =>
    cases
                                                                                                                  (show u = Value.ref a from rx)
    obtain ⟨_, _, _, xs, _, o, es, ep, h1, h2, _⟩ := (show ObjOk X.prog X.w H s.heap a (.frz o (.dT kvs)) from I.hok a _ ea)
    exact ⟨_, PySem.W.kitx_dict,
                                                                                                                  ⟨o, h1, h2.1⟩, fun z => nomatch z⟩
  | @raw a P w xs ea =>
    cases
                                                                                                                  (show u = Value.ref a from rx)
    obtain ⟨⟨o, es, ep, h1, h2, _⟩, _⟩ := I.hok a _ ea
    exact ⟨_, PySem.W.kitx_dict,
                                                                                                                  ⟨o, h1, h2.1⟩, fun z => nomatch z⟩
def rIsi2 (K : PySem.W.Frag) : List V → Hp → VK → Prop := fun xs H Q => ∃ x c t u b, xs = [x, c] ∧ ClsV c u ∧ ((TyY K H x t ∧ PySem.W.kitOne K t u = some b) ∨ ∃ a C dx vs, x = .ref a ∧ t = .ref C ∧ SlX.Slt H a C dx vs ∧ SlX.SCls K C ∧ SlX.SIsi K C ∧ PySem.W.kitOne K (.ref C) u = some b) ∧ Q (.bl b) H
theorem call_isi2 : CallR X (.builtin "isinstance") (rIsi2 X.K) := by
  intro pins s σ H xs
  intro us Q I r h
  obtain ⟨x, c, t, u, b, rfl, k, ty, q⟩ := h
  obtain ⟨u1, u2, rfl,
                                                                                                                r1, r2⟩ := vals2 r
  have e2 := k.eq r2
  subst e2
  rcases ty with ⟨ty, e⟩ | ⟨a, C, dx, vs, rfl, rfl, hs, c1, c2, e⟩
  case inr =>
    obtain rfl : u1 = Value.ref a := r1
    obtain ⟨sl, od, _, J, _⟩ := SlX.slt_inst I hs
    exact PySem.W.kia_one (OwX.kitx_slt c1.ic (c1.get _) c2.ca c2.cn c2.ct c2.cm) I.kIn J e (fun z => nomatch z) fun tk => ⟨.bl b, H, I.tok tk, rfl, q⟩
  obtain ⟨P, Z, p, hx⟩ := kit_of2 I r1 ty
  exact PySem.W.kia_one Z I.kIn p e hx fun tk =>
                                                                                                                ⟨.bl b, H, I.tok tk, rfl, q⟩
def isOb : D → Bool
  | .dict ((.dict _, _) :: _) => true
  | _ => false
theorem ob_at {K : PySem.W.Frag} {F : Hp} {v : V} {d : D} (h : Dp K F v d) (ob : isOb d = true) : ∃ (a C dx : Addr) (vs : List (Option V)), (∃ nm, ObC K nm C) ∧ v = .ref a ∧ F a = some (SlX.SlO a C dx vs) ∧ F dx = some (.xd []) := by
  cases h with
  | @dic a ks ds h1 h2 =>
    cases h2 with
    | nil => cases ob
    | @cons k v ks d ds h1 h2 => cases k <;> cases ob
  | @dit a ks ds h1 _ h2 =>
    cases h2 with
    | nil => cases ob
    | cons h1 h2 => cases ob
  | @sob a C dx nm vs ds h1 h2 c h3 => exact ⟨a, C, dx, vs, ⟨nm, c⟩, rfl, h1, h2⟩
  | _ => cases ob
theorem tyx_of {K : PySem.W.Frag} {F : Hp} {v : V} {d : D} (h : Dp K F v d) (no : isOb d = false) : TyY K F v (.type (tyOf d)) := by
  cases h with
  | sob _ _ _ _ => cases no
  | opq h => exact .raw h
  | non => exact .x (.base .non)
  | bl b => exact .x (.base (.bl b))
  | int i => exact .x (.base (.int i))
  | str x => exact .x (.base (.str x))
  | lst h _ =>
    rcases h with h | ⟨o, h⟩
    · exact .x (.base (.lst h))
    · exact .x (.base (.frz h))
  | tup h _ =>
    rcases h with
                                                                                                                  (h | ⟨o, h⟩) | h
    · exact .x (.base (.tup h))
    · exact .x (.fTuple h)
    · obtain ⟨o, its, n, h1, h2, _⟩ := h
      exact .x (.kTuple h1 h2)
  | dic h _ =>
    rcases h with h | ⟨o, h⟩
    · exact .x (.base (.dK h))
    · exact .x (.fDict h)
  | dit h _ _ =>
    rcases h with h | ⟨o, h⟩
    · exact .x (.base (.dT h))
    · exact .fT h
def isiD (T : String) (d : D) : Option Sl := if isOb d = true ∧ T ∉ plainT then none else (kitB (tyOf d) T).map fun b => .val (.bool b)
theorem no_plain {T : String} {d : D} (h : T ∈ plainT) : ¬ (isOb d = true ∧ T ∉ plainT) := fun z => z.2 h
@[simp] theorem isOb_int (i : Int) : isOb (.int i) = false := rfl
@[simp] theorem isOb_bool (i : Bool) : isOb (.bool i) = false := rfl
@[simp] theorem isOb_str (i : Str) : isOb (.str i) = false := rfl
@[simp] theorem isOb_none : isOb .none = false := rfl
@[simp] theorem isOb_list (i : List D) : isOb (.list i) = false := rfl
@[simp] theorem isOb_tuple (i : List D) : isOb (.tuple i) = false := rfl
@[simp] theorem isOb_dict0 : isOb (.dict []) = false := rfl
@[simp] theorem isOb_dictI (i : Int) (v : D) (r : List (D × D)) : isOb (.dict ((.int i, v) :: r)) = false := rfl
@[simp] theorem isOb_dictS (i : Str) (v : D) (r : List (D × D)) : isOb (.dict ((.str i, v) :: r)) = false := rfl
variable {W : WX} {e : Expr} {f : M Sl}
theorem ve_isi {T : String} {tn : Str} {p p2 pos : Pos} (h : VE X W e f) (hg : Gl X "isinstance") (hm : X.mg "isinstance" = none) (hg2 : Gl X tn) (hm2 : X.mg tn = none) (hb : bootBuiltins tn = some (.type T)) (hn : tn ≠ "__name__" := by decide) (hdb : (tn == ("__debug__" : Str)) = false := by decide)
    (he : starEach [e, .Name tn p2] X.env = (false, eval e X.env) :: starEach [.Name tn p2] X.env := by rfl) (he2 : starEach [.Name tn p2] X.env = (false, eval (.Name tn p2) X.env) :: starEach [] X.env := by rfl) (hpl : (backTo pos (starEach [.Name tn p2] X.env)).any (·.1) = false := by rfl) :
    VE X W (.Call (.Name "isinstance" p) [e, .Name tn p2] [] pos) (vUn (isiD T) f) := fun B =>
  peWk (pe_callB call_isi2 hg hm PyProof.Rows.boot_isinstance (pa_cons (h.d B) (pa_cons (pe_bltn (v := .ty T) hg2 hm2 hb rfl hn hdb) pa_nil he2) he) (by decide) (by decide) he hpl) fun σ H Q ⟨F, en, S, q⟩ => by
    refine ⟨F, en, S, (Post.bind q).imp fun d en1 F1 H1 S1 s1 q1 v rv => ?_⟩
    have k := Post.opt S1 q1
    unfold isiD at k
    by_cases ho : isOb d = true ∧ T ∉ plainT
    · rw [if_pos ho] at k; exact k.elim
    rw [if_neg ho] at k
    cases hk : kitB (tyOf d) T with
    | none => rw [hk] at k; exact k.elim
    | some b =>
      rw [hk] at k
      cases hb : isOb d with
      | false => exact ⟨v, .ty T, .type (tyOf d), .type T, b, rfl, .ty T, .inl ⟨tyx_of (dp_mono S1.sub rv) hb, kit_ty hk⟩, k.val S1.sub (.bl b)⟩
      | true =>
        have hT : T ∈ plainT := Classical.byContradiction fun z => ho ⟨hb, z⟩
        have bf : b = false := by
          have e : tyOf d = "dict" := by
            unfold isOb at hb
            split at hb
            · rfl
            · cases hb
          rw [e] at hk
          have all : ∀ T ∈ plainT, kitB "dict" T = some false := by decide +kernel
          rw [all T hT] at hk
          exact (Option.some.inj hk).symm
        obtain ⟨a, C, dx, vs, ⟨nm, c⟩, rfl, h1, h2⟩ := ob_at (dp_mono S1.sub rv) hb
        exact ⟨.ref a, .ty T, .ref C, .type T, b, rfl, .ty T, .inr ⟨a, C, dx, vs, rfl, rfl, .inr ⟨h1, h2⟩, c.cls, c.isi, by rw [bf]; exact c.no T hT⟩, k.val S1.sub (.bl b)⟩

/-! ### a < b < c -/
def vChain (o o2 : D → D → Option Sl) (fa fb fc : M Sl) : M Sl := fun en => (vD fa en).bind fun x e => (vD fb e).bind fun y e2 => match o x y with
  | some (.val (.bool true)) => (vD fc e2).bind fun z e3 => opt (o2 y z) e3
  | some (.val (.bool false)) => .ok (.val (.bool false)) e2
  | _ => .bad
variable {a b c : Expr} {fa fb fc : M Sl}
def rOf (X : Cx) (o : D → D → Option Sl) : R2 := fun x y H Q => ∃ F a b, Same F H ∧ Dp X.K F x a ∧ Dp X.K F y b ∧ Kd X.K F H Q (o a b)
theorem rd_chain {op op2 : CmpOp} {o o2 : D → D → Option Sl} {B : Bs} :
    ∀ σ H Q, tV X.K X.mg B W (vChain o o2 fa fb fc) σ H Q → tChain (rOf X o) (rOf X o2) (tD X.K X.mg B W (vD fa)) (tD X.K X.mg B W (vD fb)) (tD X.K X.mg B W (vD fc)) σ H Q := fun σ H Q ⟨F, en, S, p⟩ => by
  refine ⟨F, en, S, (Post.bind p).imp fun d en1 F1 H1 S1 s1 q v rv => ?_⟩
  refine ⟨F1, en1, S1, (Post.bind q).imp fun d2 en2 F2 H2 S2 s2 q2 v2 rv2 => ?_⟩
  refine ⟨F2, d, d2, S2.sub, dp_mono s2 rv, rv2, ?_⟩
  split at q2
  · rename_i ho
    rw [ho]
    intro F3 H3 w g rw'
    cases rw'
    refine ⟨true, rfl, ?_⟩
    rw [if_pos rfl]
    refine ⟨F3, en2, S2.gr g, (Post.bind (q2.up g.ff)).imp fun d3 en4 F4 H4 S4 s4 q4 v4 rv4 => ?_⟩
    exact ⟨F4, d2, d3, S4.sub, dp_mono (g.ff.trans s4) rv2, rv4, Post.opt S4 q4⟩
  · rename_i ho
    rw [ho]
    intro F3 H3 w g rw'
    cases rw'
    refine ⟨false, rfl, ?_⟩
    rw [if_neg (Bool.false_ne_true)]
    exact q2 F3 H3 (S2.gr g) g.ff _ (.bl false)
  · exact q2.elim
theorem vb_chain {op op2 : CmpOp} {o o2 : D → D → Option Sl} {pos : Pos} (ho : OV X (compareOp op) o) (ho2 : OV X (compareOp op2) o2) (ha : VE X W a fa) (hb : VE X W b fb) (hc : VE X W c fc) (hm : lastMarks [op, op2] [b, c] = false := by with_unfolding_all rfl) :
    VB X W (.Compare a [op, op2] [b, c] pos) (vB (vChain o o2 fa fb fc)) := fun B =>
  ptWk (pt_chain (r := rOf X o) (r' := rOf X o2) ho ho2 (ha.d B) (hb.d B) (hc.d B) hm) fun σ H Q ⟨F, en, S, p⟩ => by
    refine rd_chain (op := op) (op2 := op2) σ H _ ⟨F, en, S, ?_⟩
    have p2 : Post X.K X.mg B W σ F (fun b _ _ H' => Q b H') ((vChain o o2 fa fb fc en).bind fun r e => (frzS r e).bind bOf) := by
      have e : vB (vChain o o2 fa fb fc) en = (vChain o o2 fa fb fc en).bind fun r e => (frzS r e).bind bOf := by
        unfold vB vD
        cases vChain o o2 fa fb fc en <;> rfl
      rw [← e]; exact p
    refine (Post.bind p2).imp fun r en1 F1 H1 S1 s1 q v rv => ?_
    cases r with
    | no => exact rv.elim
    | own b xs =>
      obtain ⟨rfl, _⟩ := rv
      exact q.elim
    | val d =>
      cases d with
      | bool k =>
        cases rv
        exact ⟨k, rfl, q F1 H1 S1 (.refl _)⟩
      | _ => exact q.elim

/-! ### x += e, x[k] += e, ints -/
def sAug (i : Nat) (g : Int → Int → Int) (f : M Sl) : MS := fun en => match en[i]? with
  | some (.val (.int x)) => (vD f en).bind fun d e => match d with
    | .int y => .ok .nx (e.set i (.val (.int (g x y))))
    | _ => .bad
  | _ => .bad
def rGetL : V → V → Hp → VK → Prop := fun o i H Q => ∃ p xs k x, o = .ref p ∧ i = .int k ∧ H p = some (.lst xs) ∧ atI xs k = some x ∧ Q x H
theorem get_list : PGet X rGetL := by
  intro pins s σ H o i ov iv Q I ro ri h
  obtain ⟨p, xs, k, x, rfl, rfl, hp, hx, q⟩ := h
  cases ro
  obtain ⟨t, rfl⟩ := ri
  obtain ⟨its, n, r,
                                                                                                                ho, hz⟩ := I.lst hp
  obtain ⟨j, h1, h2⟩ := Option.bind_eq_some_iff.mp hx
  obtain ⟨_, hj, h3, h4⟩ := ixN_seq h1
  have hl := r.length
  have hn := line63
  have hjl :
                                                                                                                j < its.length := by omega
  have rx : RelV x its[j] := by
    obtain ⟨u, e1, e2⟩ := Vals.get r h2
    rw [List.getElem?_eq_getElem hjl] at e1
    rw [Option.some.inj e1]
    exact e2
  have fin : EP X pins σ Q its[j] s := ⟨x, H, I, rx, q⟩
  by_cases h0 : 0 ≤ k
  · have e : k.toNat = j := by
      unfold ixN at h1
      rw [if_pos h0, if_pos h4] at h1
      exact Option.some.inj h1
    exact PySem.wpAny_getItem_list ⟨_, ho, rfl, _, rfl⟩ h0 (by omega) (by rw [e]; simpa using List.getElem?_eq_getElem hjl) fin
  · have e : (k + its.toArray.size).toNat = j := by
      unfold ixN at h1
      rw [if_neg h0, if_pos h3] at h1
      rw [← Option.some.inj h1, List.size_toArray, hl]
    exact PySem.wpAny_getItem_list_neg ⟨_, ho, rfl, _, rfl⟩ (by omega) (by rw [List.size_toArray, ← hl]; exact h3) (by omega) (by rw [e]; simpa using List.getElem?_eq_getElem hjl) fin
def sAugS (i : Nat) (g : Int → Int → Int) (fk f : M Sl) : MS := fun en => ownAt i en fun _ _ => (vD fk en).bind fun k e => ownAt i e fun _ xs => match dIx (.list xs) k with
  | some (.val (.int x)) => (vD f e).bind fun d e2 => match d with
    | .int y => setAt i k (.int (g x y)) e2
    | _ => .bad
  | _ => .bad
theorem vs_augS {i : Nat} {x : Str} {ek : Expr} {fk : M Sl} {op : Operator} {g : Int → Int → Int} {p p2 pos : Pos} (ho : PIp X op (ipI g)) (hk : VE X W ek fk) (he : VE X W e f) (hN : X.N[i]? = some x := by rfl) (hv : Vis X.env.scope x := by first | exact Or.inl rfl | exact Or.inr (Or.inl rfl)) (hd : (x == ("__debug__" : Str)) = false := by decide)
    (hcd : (x == ("__classdict__" : Str)) = false := by decide) (ha : ∀ ov iv new, augStore ek ov iv new = (do holding [new, ov, iv] (setItem ov iv new); release [new, ov, iv] []; pure .next) := by intros; rfl) : VS X W (.AugAssign (.Subscript (.Name x p) ek p2) op e pos) (sAugS i g fk f) := fun B =>
  psWk (ps_augS (pe_var hN hv hd hcd) (hk.d B) get_list (he.d B) ho set_list ha) fun Dn σ H ⟨F, en, S, q⟩ => by
    unfold sAugS ownAt at q
    split at q
    · rename_i b0 xs0 h0
      obtain ⟨a0, vs0, e0, _⟩ := S.slotL h0
      refine ⟨_, e0, F, en, S, (PostS.bind q).imp fun k en1 F1 H1 S1 s1 q1 y ry => ?_⟩
      split at q1
      · rename_i b1 xs h1
        obtain ⟨a1, vs, e1, l1, r1, _⟩ := S1.slotL h1
        rw [e0] at e1
        cases e1
        dsimp only at q1
        split at q1
        · rename_i z hz
          unfold dIx at hz
          cases k with
          | int j =>
            dsimp only at hz
            cases hat : atI xs j with
            | none => rw [hat] at hz; cases hz
            | some d0 =>
              rw [hat] at hz
              cases hz
              obtain ⟨v0, e2, rv0⟩ := dps_atI r1 hat
              cases rv0
              have ryj := ry
              cases ryj
              refine ⟨_, vs, j, _, rfl, rfl, l1, e2, F1, en1, S1, (PostS.bind q1).imp fun d en2 F2 H2 S2 s2 q2 y2 ry2 => ?_⟩
              cases d with
              | int w =>
                cases ry2
                refine ⟨z, w, rfl, rfl, ?_⟩
                obtain ⟨a, e3, st⟩ := setAt_ok S2 (dp_mono s2 ry) (.int (g z w)) q2
                rw [e0] at e3
                cases e3
                exact st
              | _ => exact q2.elim
          | _ => cases hz
        · exact q1.elim
      · exact q1.elim
    · exact q.elim

/-! ### x[::-1] -/
end
end Mv

namespace Mv
open L2 PySem.Spec PySem PyProof.Rows

/-! ### several results, each frozen or a new own list -/
def Rls (K : PySem.W.Frag) (B : Bs) (σ : L2.St) (en : En) (F H : Hp) : List V → List Sl → Prop
  | [], [] => True
  | v :: vs, r :: rs => Rl K B σ en F H v r ∧ (∀ b xs, r = .own b xs → ∀ (j : Nat) b' ys, rs[j]? = some (Sl.own b' ys) → vs[j]? ≠ some v) ∧ Rls K B σ en F H vs rs
  | _, _ => False
section
variable {K : PySem.W.Frag} {mg : Str → Option Value} {B : Bs} {W : WX} {σ : L2.St} {en en' : En} {F F' F1 H H' : Hp} {α : Type}
theorem Rls.len : ∀ {vs : List V} {rs : List Sl}, Rls K B σ en F H vs rs → vs.length = rs.length
  | [], [], _ => rfl
  | _ :: _, _ :: _, h => by rw [List.length_cons, List.length_cons, Rls.len h.2.2]
  | [], _ :: _, h => h.elim
  | _ :: _, [], h => h.elim
theorem Rl.gr {v : V} {r : Sl} (h : Rl K B σ en F H v r) (g : Gr F H F' H') : Rl K B σ en F' H' v r := by
  cases r with
  | no => exact h
  | val d => exact dp_mono g.ff h
  | own b xs =>
    obtain ⟨h0, a, vs, h1, h2, h3, h4, h5⟩ := h
    refine ⟨h0, a, vs, h1, g.hh _ _ h2, ?_, dps_mono g.ff h4, h5⟩
    cases q : F' a with
    | none => rfl
    | some o =>
      rcases g.nw a o q with e | e
      · rw [h3] at e; cases e
      · rw [h2] at e; cases e
theorem Rls.gr (g : Gr F H F' H') : ∀ {vs : List V} {rs : List Sl}, Rls K B σ en F H vs rs → Rls K B σ en F' H' vs rs
  | [], [], _ => trivial
  | _ :: _, _ :: _, h => ⟨h.1.gr g, h.2.1, Rls.gr g h.2.2⟩
  | [], _ :: _, h => h.elim
  | _ :: _, [], h => h.elim
/-- out of a state with one more thing to be kept -/
theorem Rls.outer {F0 : Hp} {a : Addr} {us : List V} : ∀ {vs : List V} {rs : List Sl}, Rls K (B.more F0 a us) σ en F H vs rs → Rls K B σ en F H vs rs ∧ ∀ (j : Nat) b ys, rs[j]? = some (Sl.own b ys) → vs[j]? ≠ some (.ref a)
  | [], [], _ => ⟨trivial, fun j b ys h => by simp at h⟩
  | v :: vs, r :: rs, h => by
    obtain ⟨h1, h2, h3⟩ := h
    obtain ⟨i1, i2⟩ := Rls.outer h3
    have key : Rl K B σ en F H v r ∧ ∀ b ys, r = .own b ys → v ≠ .ref a := by
      cases r with
      | no => exact h1.elim
      | val d => exact ⟨h1, fun _ _ e => by cases e⟩
      | own b xs =>
        obtain ⟨h0, c, ws, rfl, q2, q3, q4, q5, q6, q7⟩ := h1
        have q5' : upd B.Kp a (.lst us) c = none := q5
        have hca : c ≠ a := fun z => by rw [z, upd_same] at q5'; cases q5'
        rw [upd_ne hca] at q5'
        exact ⟨⟨h0, c, ws, rfl, q2, q3, q4, q5', fun z => q6 (.inl z), q7⟩, fun _ _ _ e => hca (by cases e; rfl)⟩
    refine ⟨⟨key.1, h2, i1⟩, fun j b ys hj => ?_⟩
    cases j with
    | zero =>
      simp at hj
      intro e
      simp at e
      exact key.2 b ys hj e
    | succ j => exact i2 j b ys (by simpa using hj)
  | [], _ :: _, h => h.elim
  | _ :: _, [], h => h.elim
theorem Rl.after {i : Nat} {v w : V} {r s : Sl} (hw : Rl K B σ en F H w s) (hd : ∀ b xs, r = .own b xs → ∀ b' ys, s = .own b' ys → w ≠ v) : Rl K B (σ.set i (some v)) (en.set i r) F H w s := by
  cases s with
  | no => exact hw
  | val d => exact hw
  | own b xs =>
    obtain ⟨h0, c, ws, rfl, q2, q3, q4, q5, q6, q7⟩ := hw
    refine ⟨h0, c, ws, rfl, q2, q3, q4, q5, q6, fun k hk e => ?_⟩
    rcases isOwn_set hk with ⟨rfl, b', ys, hr⟩ | ⟨hki, hk⟩
    · rw [List.getElem?_set, if_pos rfl] at e
      split at e
      · exact hd b' ys hr b xs rfl (by cases e; rfl)
      · cases e
    · rw [List.getElem?_set_ne (Ne.symm hki)] at e
      exact q7 k hk e
theorem Rls.after {i : Nat} {v : V} {r : Sl} : ∀ {vs : List V} {rs : List Sl}, Rls K B σ en F H vs rs → (∀ b xs, r = .own b xs → ∀ (j : Nat) b' ys, rs[j]? = some (Sl.own b' ys) → vs[j]? ≠ some v) → Rls K B (σ.set i (some v)) (en.set i r) F H vs rs
  | [], [], _, _ => trivial
  | w :: vs, s :: rs, h, hd => ⟨h.1.after fun b xs e b' ys e2 e3 => hd b xs e 0 b' ys (by rw [e2]; rfl) (by rw [e3]; rfl), h.2.1, Rls.after h.2.2 fun b xs e j b' ys hj => by
      have := hd b xs e (j + 1) b' ys (by simpa using hj)
      simpa using this⟩
  | [], _ :: _, h, _ => h.elim
  | _ :: _, [], h, _ => h.elim
def storeV : List Nat → List V → L2.St → L2.St
  | i :: is, v :: vs, σ => storeV is vs (σ.set i (some v))
  | _, _, σ => σ
def storeE : List Nat → List Sl → En → Option En
  | [], [], e => some e
  | i :: is, r :: rs, e => storeE is rs (e.set i r)
  | _, _, _ => none
theorem storeE_len : ∀ {is : List Nat} {rs : List Sl} {e e' : En}, storeE is rs e = some e' → rs.length = is.length
  | [], [], _, _, _ => rfl
  | _ :: is, _ :: rs, e, e', h => by rw [List.length_cons, List.length_cons, storeE_len (is := is) h]
  | [], _ :: _, _, _, h => by cases h
  | _ :: _, [], _, _, h => by cases h
theorem Rls.store : ∀ {is : List Nat} {vs : List V} {rs : List Sl} {σ : L2.St} {en en' : En}, Sim K B σ en F H → Rls K B σ en F H vs rs → storeE is rs en = some en' → Sim K B (storeV is vs σ) en' F H
  | [], [], [], σ, en, en', S, _, h => by cases h; exact S
  | i :: is, v :: vs, r :: rs, σ, en, en', S, R, h => Rls.store (is := is) (S.store R.1) (R.2.2.after R.2.1) h
  | [], _ :: _, [], _, _, _, _, R, _ => R.elim
  | _, [], _ :: _, _, _, _, _, R, _ => R.elim
  | [], _ :: _, _ :: _, _, _, _, _, _, h => by cases h
  | _ :: _, [], [], _, _, _, _, _, h => by cases h
  | _ :: _, _ :: _, [], _, _, _, _, R, _ => R.elim
/-- the same, under one more thing to be kept -/
theorem Post.more {a : Addr} {us : List V} {r : R α} {k k2 : α → En → Hp → Hp → Prop} (S0 : Sim K B σ en F H) (hk : B.Kp a = none) (ha : F a = none) (p : Post K mg B W σ F k r)
    (h : ∀ x e F' H', Sim K (B.more F a us) σ e F' H' → Sim K B σ e F' H' → H' a = some (.lst us) → F' a = none → (∀ i, isOwn e i → σ[i]? ≠ some (some (.ref a))) → Same F F' → k x e F' H' → k2 x e F' H') : Post K mg (B.more F a us) W σ F k2 r := by
  cases r with
  | bad => exact p
  | exc c fs e =>
    intro F' H' cls d S s
    exact p F' H' cls d (S.outer S0.f0 S0.new hk ha).1 s
  | ok x e =>
    intro F' H' S s
    obtain ⟨S1, h1, h2, h3⟩ := S.outer S0.f0 S0.new hk ha
    exact h x e F' H' S S1 h1 h2 h3 s (p F' H' S1 s)
def tLs (K : PySem.W.Frag) (mg : Str → Option Value) (B : Bs) (W : WX) (g : M (List Sl)) : TA := fun σ H Q => ∃ F en, Sim K B σ en F H ∧ Post K mg B W σ F (fun rs en' F' H' => ∀ vs, Rls K B σ en' F' H' vs rs → Q vs H') (g en)
end
def VLs (X : Cx) (W : WX) (es : List Expr) (g : M (List Sl)) : Prop := ∀ B, PA X es (tLs X.K X.mg B W g)
def lNil : M (List Sl) := fun en => .ok [] en
def lCons (f : M Sl) (g : M (List Sl)) : M (List Sl) := fun en => (f en).bind fun r e => (g e).bind fun rs e2 => .ok (r :: rs) e2
section
variable {X : Cx} {W : WX} {e : Expr} {es : List Expr} {f : M Sl} {pos : Pos}
theorem vls_nil : VLs X W [] lNil := fun B => paWk pa_nil fun σ H Q ⟨F, en, S, p⟩ => p F H S (.refl _) [] trivial
theorem vls_cons {g : M (List Sl)} (h : VE X W e f) (hr : VLs X W es g) (hs : starEach (e :: es) X.env = (false, eval e X.env) :: starEach es X.env := by rfl) : VLs X W (e :: es) (lCons f g) := fun B =>
  paWk (pa_cons (h B) (t := fun σ H Q => ∃ B', tLs X.K X.mg B' W g σ H Q) ⟨fun pos pins s σ H Q I ⟨B', q⟩ => (hr B').run pos pins s σ H Q I q⟩ hs) fun σ H Q ⟨F, en, S, p⟩ => by
    refine ⟨F, en, S, (Post.bind p).imp fun r en1 F1 H1 S1 s1 q v rv => ?_⟩
    cases r with
    | no => exact rv.elim
    | val d =>
      refine ⟨B, F1, en1, S1, (Post.bind q).imp fun rs en2 F2 H2 S2 s2 q2 vs rvs => ?_⟩
      exact q2 F2 H2 S2 (.refl _) _ ⟨dp_mono s2 rv, fun b xs z => (by cases z), rvs⟩
    | own b xs =>
      obtain ⟨h0, a, us, rfl, h2, h3, h4, h5, h6, h7⟩ := rv
      refine ⟨B.more F1 a us, F1, en1, S1.under (.refl _) (fun c o z => .inl z) h2 h7, ?_⟩
      refine Post.more S1 h5 h3 (Post.bind q) fun rs en2 F2 H2 Sm S2 k1 k2 k3 s2 q2 vs rvs => ?_
      obtain ⟨i1, i2⟩ := rvs.outer
      exact q2 F2 H2 S2 (.refl _) _ ⟨⟨h0, a, us, rfl, k1, k2, dps_mono s2 h4, h5, h6, k3⟩, fun _ _ _ j b' ys hj => i2 j b' ys hj, i1⟩

/-! ### a, b = x, y -/
def sPar (is : List Nat) (g : M (List Sl)) : MS := fun en => (g en).bind fun rs e => match storeE is rs e with
  | some e2 => .ok .nx e2
  | none => .bad
variable {g : M (List Sl)} {a b c : Expr} {x y z : Str} {px py pz pt pt2 : Pos} {kt k2 : Nat}
theorem rd_par {B : Bs} {Dn : Ends} {σ : L2.St} {H : Hp} {is : List Nat} (h : tS X.K X.mg B W (sPar is g) Dn σ H) : tLs X.K X.mg B W g σ H fun vs H1 => vs.length = is.length ∧ Dn.nx (storeV is vs σ) H1 := by
  obtain ⟨F, en, S, p⟩ := h
  refine ⟨F, en, S, (PostS.bind p).imp fun rs en1 F1 H1 S1 s1 q vs rvs => ?_⟩
  cases hs : storeE is rs en1 with
  | none => rw [hs] at q; exact q.elim
  | some e2 =>
    rw [hs] at q
    exact ⟨rvs.len.trans (storeE_len hs), q _ F1 H1 (rvs.store S1 hs) (.refl _)⟩
theorem vs_par2 {i j : Nat} (hc : X.calm = true) (hN : X.N.Nodup) (ha : VLs X W [a, b] g) (hw : swappedStores [.Tuple [.Name x px, .Name y py] kt pt] (.Tuple [a, b] k2 pt2) X.env = pure (some [x, y]))
    (hx : X.env.scope.names.lookup x = some .local) (hy : X.env.scope.names.lookup y = some .local) (hi : X.N[i]? = some x := by rfl) (hj : X.N[j]? = some y := by rfl) (hij : i ≠ j := by decide)
    (hs : swapsWithSole [.Tuple [.Name x px, .Name y py] kt pt] (.Tuple [a, b] k2 pt2) pos.line X.env = pure false := by rfl) : VS X W (.Assign [.Tuple [.Name x px, .Name y py] kt pt] (.Tuple [a, b] k2 pt2) pos) (sPar [i, j] g) := fun B =>
  psWk (ps_par hc hN hi hj hij hx hy (ha B) hw hs) fun Dn σ H h => by
    obtain ⟨F, en, S, p⟩ := rd_par h
    refine ⟨F, en, S, p.imp fun rs en1 F1 H1 S1 s1 q vs rvs => ?_⟩
    obtain ⟨hl, q⟩ := q vs rvs
    match vs, hl, q with
    | [v, w], _, q => exact ⟨v, w, rfl, q⟩
theorem vs_par3 {i j l : Nat} (hc : X.calm = true) (hN : X.N.Nodup) (ha : VLs X W [a, b, c] g) (hw : swappedStores [.Tuple [.Name x px, .Name y py, .Name z pz] kt pt] (.Tuple [a, b, c] k2 pt2) X.env = pure (some [x, y, z]))
    (hx : X.env.scope.names.lookup x = some .local) (hy : X.env.scope.names.lookup y = some .local) (hz : X.env.scope.names.lookup z = some .local) (hi : X.N[i]? = some x := by rfl) (hj : X.N[j]? = some y := by rfl) (hl : X.N[l]? = some z := by rfl) (hij : i ≠ j := by decide) (hil : i ≠ l := by decide) (hjl : j ≠ l := by decide)
    (hs : swapsWithSole [.Tuple [.Name x px, .Name y py, .Name z pz] kt pt] (.Tuple [a, b, c] k2 pt2) pos.line X.env = pure false := by rfl) : VS X W (.Assign [.Tuple [.Name x px, .Name y py, .Name z pz] kt pt] (.Tuple [a, b, c] k2 pt2) pos) (sPar [i, j, l] g) := fun B =>
  psWk (ps_par3 hc hN hi hj hl hij hil hjl hx hy hz (ha B) hw hs) fun Dn σ H h => by
    obtain ⟨F, en, S, p⟩ := rd_par h
    refine ⟨F, en, S, p.imp fun rs en1 F1 H1 S1 s1 q vs rvs => ?_⟩
    obtain ⟨hl, q⟩ := q vs rvs
    match vs, hl, q with
    | [u, v, w], _, q => exact ⟨u, v, w, rfl, q⟩
/-- any names -/
def VNs (X : Cx) (ts : List Expr) (is : List Nat) : Prop := PGs X ts (fun vs σ H Q => vs.length = is.length ∧ Q (storeV is vs σ) H)
theorem vns_nil : VNs X [] [] := pgsWk pgs_nil fun vs σ H Q ⟨hl, q⟩ => by
  cases vs with
  | nil => exact ⟨rfl, q⟩
  | cons _ _ => cases hl
theorem vns_cons {i : Nat} {ts : List Expr} {is : List Nat} {p : Pos} (hN : X.N.Nodup) (h : VNs X ts is) (hi : X.N[i]? = some x := by rfl) (hx : Loc X.env.scope x := by first | exact Or.inl rfl | exact Or.inr rfl)
    (hf : X.fn x = true ∨ X.env.scope.names.lookup x = some .local := by first | exact .inl rfl | exact .inr rfl) (hs : (assignEach (.Name x p :: ts) X.env).map (·.2) = assign (.Name x p) X.env :: (assignEach ts X.env).map (·.2) := by rfl) : VNs X (.Name x p :: ts) (i :: is) :=
  pgsWk (pgs_cons (pg_name hN hi hx hf) h hs) fun vs σ H Q ⟨hl, q⟩ => by
    cases vs with
    | nil => cases hl
    | cons v vs => exact ⟨v, vs, rfl, by simpa using hl, q⟩
theorem vs_parN {ts es : List Expr} {is : List Nat} (hc : X.calm = true) (hn : VNs X ts is) (ha : VLs X W es g) (hlim : is.length ≤ 1000 := by decide) (hs : swapsWithSole [.Tuple ts kt pt] (.Tuple es k2 pt2) pos.line X.env = pure false := by rfl) (hw : swappedStores [.Tuple ts kt pt] (.Tuple es k2 pt2) X.env = pure none := by rfl)
    (h1 : (assignEach [.Tuple ts kt pt] X.env).map (·.2) = [assign (.Tuple ts kt pt) X.env] := by rfl) (h2 : (assignEach ts X.env).length = is.length := by rfl) (hst : (assignEach ts X.env).findIdx? (·.1) = none := by rfl) :
    VS X W (.Assign [.Tuple ts kt pt] (.Tuple es k2 pt2) pos) (sPar is g) := fun B =>
  psWk (ps_asg (pe_tup (ha B)) (pg_tup hc hn h2 hst) hs hw h1) fun Dn σ H h => by
    obtain ⟨F, en, S, p⟩ := h
    refine ⟨F, en, S, (PostS.bind p).imp fun rs en1 F1 H1 S1 s1 q vs rvs => ?_⟩
    cases hs : storeE is rs en1 with
    | none => rw [hs] at q; exact q.elim
    | some e2 =>
      rw [hs] at q
      have hl : vs.length = is.length := rvs.len.trans (storeE_len hs)
      refine ⟨by rw [hl]; exact lim_line (Nat.le_trans hlim (by decide)), fun pp hp => ⟨pp, vs, rfl, .inl (.inl upd_same), hl, hl, ?_⟩⟩
      have gr : Gr F1 H1 F1 (upd H1 pp (.tup vs)) := Gr.made S1.sub hp
      exact q _ F1 _ ((rvs.gr gr).store (S1.gr gr) hs) (.refl _)

/-! ### [*a, b] -/
def vStar (f : M Sl) (g : M (List D)) : M (List D) := fun en => (vD f en).bind fun d e => match seqOf d with
  | some xs => (g e).bind fun ds e2 => .ok (xs ++ ds) e2
  | none => .bad
theorem vds_star {g : M (List D)} {p : Pos} (h : VE X W e f) (hr : VDs X W es g) (hs : starEach (.Starred e p :: es) X.env = (true, eval e X.env) :: starEach es X.env := by rfl) : VDs X W (.Starred e p :: es) (vStar f g) := fun B =>
  paWk (StX.pa_star (h.d B) (hr B) hs) fun σ H Q ⟨F, en, S, q⟩ => by
    refine ⟨F, en, S, (Post.bind q).imp fun d en1 F1 H1 S1 s1 q1 v rv => ?_⟩
    split at q1
    · rename_i xs hx
      have go : ∀ us, DpAll X.K F1 us xs → tDs X.K X.mg B W g σ H1 fun vs H2 => Q (us ++ vs) H2 := fun us r1 =>
        ⟨F1, en1, S1, (Post.bind q1).imp fun ds en2 F2 H2 S2 s2 q2 vs rvs => q2 F2 H2 S2 (.refl _) _ (dps_app (dps_mono s2 r1) rvs)⟩
      cases d with
      | list ys =>
        cases hx
        obtain ⟨a1, us, rfl, h1, r1⟩ := lst_of rv
        exact ⟨a1, us, rfl, .inr (.inl (rd_mono S1.sub h1)), go us r1⟩
      | tuple ys =>
        cases hx
        obtain ⟨a1, us, rfl, h1, r1⟩ := tup_of rv
        exact ⟨a1, us, rfl, .inl (sqT_mono S1.sub h1), go us r1⟩
      | _ => cases hx
    · exact q1.elim
end
end Mv

namespace Mv
open L2 PySem.Spec PySem PyProof.Rows

/-- no list stands in what the top has written -/
def noLists (K : PySem.W.Frag) : Bool := K.all fun p => match p.2.cls with
  | .type t => t != "list"
  | _ => true
theorem noLists_none {K : PySem.W.Frag} (h : noLists K = true) {a : Addr} {o : Obj} (hk : K.lookup a = some o) (hc : o.cls = .type "list") : False := by
  have mem : ∀ {l : List (Addr × Obj)}, l.lookup a = some o → (a, o) ∈ l := by
    intro l
    induction l with
    | nil => intro e; cases e
    | cons p l ih =>
      obtain ⟨b, u⟩ := p
      intro e
      rw [List.lookup_cons] at e
      split at e
      · rename_i hb
        cases e
        rw [eq_of_beq hb]
        exact List.mem_cons_self
      · exact List.mem_cons_of_mem _ (ih e)
  have z := List.all_eq_true.mp h _ (mem hk)
  rw [hc] at z
  exact absurd z (by decide)

/-- the script's place, and its number list -/
def scriptHp (a : Addr) (vs : List Value) (ns : List Int) : Hp := fun b => if b = a then some (.frz { cls := .type "list", data := .seq vs.toArray } (.lst (ns.map V.int))) else none
/-- the law, called: what it answers is True -/
theorem law_callG {P : Program} {w : World} {K : PySem.W.Frag} {mg mb : Str → Option Value} {k : Nat} {fa a : Addr} {fd : FuncData} {x : Str} {m : List D → Option Out} {sh : Shared} {vs : List Value} {ns : List Int}
    (inK : K.In sh.heap) (nsG : sh.heap.Ns mainGlobals mg) (nsB : sh.heap.Ns builtinsNs mb) (boots : ∀ y : Str, y ≠ "__name__" → mb y = bootBuiltins y) (noLim : sh.heap.NoLimit) (noGens : sh.gens = #[])
    (scr : sh.heap.get? a = some { cls := .type "list", data := .seq vs.toArray }) (isInts : IntsAre vs ns) (few : ns.length ≤ sizeLine) (room : RoomG k callerA) (nl : noLists K = true)
    (F : ∀ base : Heap, K.In base → base.Ns mainGlobals mg → FnG P w K mg base k fa fd [x] (spV K mg m)) (bind : ∀ (s : Shared) (u : Value), BindsTo s fd ⟨[u], []⟩ [(x, u)])
    (ans : m [.list (ns.map .int)] = some (.ret (.val (.bool true)))) :
    codeAny (model P w) callerA (.call (.ref fa) ⟨[.ref a], []⟩) (fun r s' => r = .ok (.ret (.bool true)) ∧ OldK sh.heap s'.heap ∧ s'.os = sh.os ∧ AllBare s'.gens) sh := by
  have rels := vals_ints isInts
  have hka : K.lookup a = none := by
    cases q : K.lookup a with
    | none => rfl
    | some o =>
      have e := inK a o q
      rw [scr] at e
      cases e
      exact (noLists_none nl q rfl).elim
  have at_a : scriptHp a vs ns a = some (.frz { cls := .type "list", data := .seq vs.toArray } (.lst (ns.map V.int))) := if_pos rfl
  have off_a : ∀ {b : Addr}, b ≠ a → scriptHp a vs ns b = none := fun h => if_neg h
  have inBase : ∀ {b : Addr} {o : Obj}, sh.heap.get? b = some o → b ≠ a → (hidT sh.heap (scriptHp a vs ns)).get? b = some o := fun e h => hidT_get e (off_a h)
  have dictBase : ∀ {b : Addr} {m : Str → Option Value}, sh.heap.Ns b m → (hidT sh.heap (scriptHp a vs ns)).Ns b m := fun {b m} ⟨o, es, ep, e, dd, r⟩ => by
    refine ⟨o, es, ep, inBase e fun z => ?_, dd, r⟩
    subst z
    rw [scr] at e
    cases e
    cases (show Data.seq vs.toArray _ = Data.dict es ep from dd)
  have kBase : K.In (hidT sh.heap (scriptHp a vs ns)) := fun b o e => inBase (inK b o e) fun z => by
    subst z
    rw [hka] at e
    cases e
  have md : Mod K mg (hidT sh.heap (scriptHp a vs ns)) := ⟨kBase, dictBase nsG, ⟨mb, dictBase nsB, boots⟩, let ⟨mc, h1, h2⟩ := noLim; ⟨mc, dictBase h1, h2⟩⟩
  have ok : HOk P w (scriptHp a vs ns) sh.heap := fun b u z => by
    by_cases h : b = a
    · subst h
      rw [at_a] at z
      cases z
      exact ⟨scr, by rw [List.length_map]; exact few, vs, _, rels, scr⟩
    · rw [off_a h] at z
      cases z
  have env : Env0 P w K mg (hidT sh.heap (scriptHp a vs ns)) callerA [] sh (scriptHp a vs ns) := ⟨rfl, md, fun b o e => of_hidT e, Nat.le_of_eq (hidT_size _ _), trivial, fun b hb => (List.not_mem_nil hb).elim, ok, .of_eq noGens⟩
  have args : DpAll K (scriptHp a vs ns) [.ref a] [.list (ns.map .int)] := by
    have go : ∀ ms : List Int, DpAll K (scriptHp a vs ns) (ms.map V.int) (ms.map PyData.int) := fun ms => by
      induction ms with
      | nil => exact .nil
      | cons n ms ih => exact .cons (.int n) ih
    exact .cons (.lst (.inr ⟨_, at_a⟩) (go ns)) .nil
  have prom : spV K mg m [.ref a] (scriptHp a vs ns) (fun v _ => v = .bl true) (fun _ _ _ => False) := by
    refine ⟨scriptHp a vs ns, _, .refl _, args, ?_⟩
    rw [ans]
    intro F' H' v g r
    cases (show Dp K F' v (.bool true) from r)
    rfl
  refine codeAny_mono ((F _ kBase (dictBase nsG)).run callerA [] sh (scriptHp a vs ns) ⟨[.ref a], []⟩ [.ref a] [.ref a] _ _ room env (bind sh (.ref a)) (.cons rfl .nil) prom) fun r s' out => ?_
  cases r with
  | error e =>
    obtain ⟨_, _, _, _, _, _, _, _, _, _, _, _, no⟩ := out
    exact no.elim
  | ok fl =>
    cases fl with
    | next => exact False.elim out
    | brk => exact False.elim out
    | cont => exact False.elim out
    | ret u =>
      obtain ⟨v, H', os, bare, un, ok', ru, q⟩ := out
      cases (show v = V.bl true from q)
      cases (show u = Value.bool true from ru)
      refine ⟨rfl,
                                                                                                                    OldK.of_keep fun b o e => ?_, os, bare⟩
      by_cases h : b = a
      · subst h
        have z2 := un.frzs b _ _ at_a
        obtain ⟨e2, _⟩ := ok' b _ z2
        rw [scr] at e
        cases e
        exact e2
      · exact un.keep b o e (off_a h) (fun z => (List.not_mem_nil z).elim) (by simp)
theorem law_walk {l : PySem.W.OpenLaw} {n k : Nat} {q : Program} {loose : List Str} {XP : (Str → Option Value) → Heap → Prop} {YP : World → Heap → Prop} {d : DefRec} {K : Params → PySem.W.Frag} {x : Str} {m : List D → Option Out}
    (hn : l.most = some n) (hn2 : n ≤ sizeLine) (hdf : d.params.defaults = []) (room : RoomG k callerA)
    (hY : ∀ (w : World) (h : Heap),
                                                                                                                  YP w h → (K w.params).In h)
    (F : ∀ (w : World) (mg : Str → Option Value) (fa : Addr) (h : Heap),
                                                                                                                  (K w.params).In h → h.Ns mainGlobals mg → mg d.name = some (.ref fa) →
      noLists (K w.params) = true ∧ ∃ fd : FuncData, (∀ (s : Shared) (u : Value), BindsTo s fd ⟨[u], []⟩ [(x, u)]) ∧
        ∀ base : Heap, (K w.params).In base → base.Ns mainGlobals mg → FnG l.prog w (K w.params) mg base k fa fd [x] (spV (K w.params) mg m))
    (ans : ∀ ns : List Int, ns.length ≤ n → m [.list (ns.map .int)] = some (.ret (.val (.bool true)))) :
    PySem.W.WalkO q loose XP YP l.row.toRowW d []
                                                                                                                  (fun f vs => PySem.call f vs) := by
  refine Att.attach_call hn hdf fun w s₀ sh mg mb fa o pm cd doc a vs ns G Y ho hd hcd hmg scr isInts few hg => ?_
  have inK := hY w _ Y
  obtain ⟨nl, fd, bind, hF⟩ := F w mg fa _ inK G.T.g hmg
  exact law_callG inK G.T.g G.T.b G.T.builtins G.T.nolimit hg scr isInts (Nat.le_trans few hn2) room nl hF bind (ans ns few)
end Mv

namespace Mv
open L2 PySem.Spec PySem PyProof.Rows

/-! ### what the printed walks lean on -/
theorem bo_abs : bootBuiltins "abs" = some (.builtin "abs") := by decide +kernel
theorem bo_repr : bootBuiltins "repr" = some (.builtin "repr") := by decide +kernel
theorem bo_all : bootBuiltins "all" = some (.builtin "all") := by decide +kernel
theorem bo_max : bootBuiltins "max" = some (.builtin "max") := by decide +kernel
theorem bo_min : bootBuiltins "min" = some (.builtin "min") := by decide +kernel
theorem bo_int : bootBuiltins "int" = some (.type "int") := by decide +kernel
theorem bo_bool : bootBuiltins "bool" = some (.type "bool") := by decide +kernel
theorem bo_tuple : bootBuiltins "tuple" = some (.type "tuple") := by decide +kernel
theorem bo_list : bootBuiltins "list" = some (.type "list") := by decide +kernel
/-- the built-ins that the texts name -/
structure Blt (mg : Str → Option Value) : Prop where
  len : mg "len" = none
  abs : mg "abs" = none
  repr : mg "repr" = none
  all : mg "all" = none
  sum : mg "sum" = none
  max : mg "max" = none
  min : mg "min" = none
  sorted : mg "sorted" = none
  int : mg "int" = none
  bool : mg "bool" = none
  str : mg "str" = none
  tuple : mg "tuple" = none
  list : mg "list" = none
  dict : mg "dict" = none
  set : mg "set" = none
  isinstance : mg "isinstance" = none
  range : mg "range" = none
  enumerate : mg "enumerate" = none
  zip : mg "zip" = none
/-- a constant of the module: a tuple of values -/
structure GC (K : PySem.W.Frag) (mg : Str → Option Value) (x : Str) (d : D) : Prop where
  ex : ∃ (v : V) (u : Value), mg x = some u ∧ RelV v u ∧ ∀ F, Dp K F v d
section
variable {X : Cx} {W : WX} {pos : Pos} {x : Str} {d : D} {a b tg : Expr} {g : M (List D)} {p tpos : Pos} {elts : List Expr} {kk : Nat}
theorem ve_gc (h : GC X.K X.mg x d) (hg : Gl X x := by rfl) (hd : (x == ("__debug__" : Str)) = false := by decide) : VE X W (.Name x pos) (vC d) :=
  let ⟨_, _, hm, r, dv⟩ := h.ex
  ve_glob hg hm r dv hd
theorem tk0 : Takes X W0 := fun u s' ⟨_, _, _, _, _, _, _, _, _, _, _, _, _, _, _, _, h⟩ => h.elim
def rngR : List D → En → R (List D) := fun ds e => match ds with
    | [.int j] => if j.natAbs < 1000000000 then .ok (rngD 0 j.toNat) e else .bad
    | _ => .bad
def vRng1 (g : M (List D)) : M (List D) := fun en => (g en).bind rngR
def vEnum (g : M (List D)) : M (List D) := fun en => (g en).bind fun ds e => match ds with
    | [d] => match seqOf d with
      | some es => .ok (enumD es) e
      | none => .bad
    | _ => .bad
def vZip (g : M (List D)) : M (List D) := fun en => (g en).bind fun ds e => match ds with
    | [d, d2] => match seqOf d, seqOf d2 with
      | some es, some es2 => .ok (zipD es es2) e
      | _, _ => .bad
    | _ => .bad
theorem wi_range1 (hg : Gl X "range") (hm : X.mg "range" = none) (ha : VDs X W [a] g) (hs : starEach [a] X.env = [(false, eval a X.env)] := by rfl) : VI X W tg (.Call (.Name "range" p) [a] [] pos) (vRng1 g) := vi_range1 hg hm ha hs
theorem wi_enum (hg : Gl X "enumerate") (hm : X.mg "enumerate" = none) (ha : VDs X W [a] g) (hs : starEach [a] X.env = [(false, eval a X.env)] := by rfl) : VI X W (.Tuple elts kk tpos) (.Call (.Name "enumerate" p) [a] [] pos) (vEnum g) := vi_enum hg hm ha hs
theorem wi_zip (hg : Gl X "zip") (hm : X.mg "zip" = none) (ha : VDs X W [a, b] g) (hs : starEach [a, b] X.env = (false, eval a X.env) :: starEach [b] X.env := by rfl) (hpl : (backTo pos (starEach [b] X.env)).any (·.1) = false := by rfl) : VI X W (.Tuple elts kk tpos) (.Call (.Name "zip" p) [a, b] [] pos) (vZip g) := vi_zip hg hm ha hs hpl
/-- what a def's text computes, by fuel -/
def runM (k n : Nat) (g : Nat → MS) (fu : List D → Nat) : List D → Option Out := fun ds => if ds.length = k then outOf (g (fu ds) (startE n ds)) else none
def runB (k n : Nat) (g : Nat → MS) (fu : List D → List D → Nat) : List D → List D → Option (Out × List D) := fun xs ds => if ds.length + 1 = k then outB (g (fu xs ds) (.own true xs :: startE (n - 1) ds)) else none
end
section
variable {P : Program} {w : World} {K : PySem.W.Frag} {mg : Str → Option Value} {base : Heap} {x qual : Str} {st : Stmt} {f : Addr} {fd : FuncData} {N ps : List Str} {k : Nat}
theorem fnv_run {g : Nat → MS} {fu : List D → Nat} (F : Fun K x qual st f fd) (S : FnScope N ps (defScope st)) (hm : mg x = some (.ref f)) (b : Binds K fd ps [])
    (body : ∀ (n : Nat) (cdv : Value) (A : Around) (outer : List Env) (s : Shared) (H : Hp) (E : XK), RoomG k (A.deeper (envOfC qual (defScope st) s.heap.objs.size f cdv)) →
      VSs (bodyX P w K mg base N qual st f cdv A outer s H E) (fun cls d _ H => E cls d H) (defBody st) (g n)) : FnV P w K mg base x (k + 1) (runM ps.length N.length g fu) :=
  fnv_mk F S hm b (fun ds o h => by
    unfold runM at h
    split at h
    · assumption
    · cases h) g body fun ds o h => ⟨fu ds, by
    unfold runM at h
    split at h
    · exact h
    · cases h⟩
theorem fng_run {g : Nat → MS} {fu : List D → Nat} (F : Fun K x qual st f fd) (S : FnScope N ps (defScope st))
    (body : ∀ (n : Nat) (cdv : Value) (A : Around) (outer : List Env) (s : Shared) (H : Hp) (E : XK), RoomG k (A.deeper (envOfC qual (defScope st) s.heap.objs.size f cdv)) →
      VSs (bodyX P w K mg base N qual st f cdv A outer s H E) (fun cls d _ H => E cls d H) (defBody st) (g n)) : FnG P w K mg base (k + 1) f fd ps (spV K mg (runM ps.length N.length g fu)) :=
  fng_mk F S (fun ds o h => by
    unfold runM at h
    split at h
    · assumption
    · cases h) g body fun ds o h => ⟨fu ds, by
    unfold runM at h
    split at h
    · exact h
    · cases h⟩
theorem fnb_run {g : Nat → MS} {fu : List D → List D → Nat} (F : Fun K x qual st f fd) (S : FnScope N ps (defScope st)) (hm : mg x = some (.ref f)) (b : Binds K fd ps [])
    (body : ∀ (n : Nat) (cdv : Value) (A : Around) (outer : List Env) (s : Shared) (H : Hp) (E : XK), RoomG k (A.deeper (envOfC qual (defScope st) s.heap.objs.size f cdv)) →
      VSs (bodyX P w K mg base N qual st f cdv A outer s H E) (fun cls d _ H => E cls d H) (defBody st) (g n)) : FnB P w K mg base x (k + 1) (runB ps.length N.length g fu) :=
  fnb_mk F S hm b (fun xs ds o h => by
    unfold runB at h
    split at h
    · assumption
    · cases h) g body fun xs ds o h => ⟨fu xs ds, by
    unfold runB at h
    split at h
    · exact h
    · cases h⟩
end
/-- a constant's value, where the module's names lie -/
structure GV (K : PySem.W.Frag) (u : Value) (d : D) : Prop where
  ex : ∃ v : V, RelV v u ∧ ∀ F, Dp K F v d
structure GVs (K : PySem.W.Frag) (us : List Value) (ds : List D) : Prop where
  ex : ∃ vs : List V, Vals vs us ∧ ∀ F, DpAll K F vs ds
section
variable {K : PySem.W.Frag}
theorem gv_int (i : Int) (t : Tok) : GV K (.int i t) (.int i) := ⟨.int i, ⟨t, rfl⟩, fun _ => .int i⟩
theorem gvs_nil : GVs K [] [] := ⟨[], .nil, fun _ => .nil⟩
theorem gvs_cons {u : Value} {us : List Value} {d : D} {ds : List D} (h : GV K u d) (hs : GVs K us ds) : GVs K (u :: us) (d :: ds) :=
  let ⟨v, r, dv⟩ := h.ex
  let ⟨vs, rs, dvs⟩ := hs.ex
  ⟨v :: vs, .cons r rs, fun F => .cons (dv F) (dvs F)⟩
theorem gv_tup {a : Addr} {o : Obj} {us : Array Value} {n : Nat} {ds : List D} (hk : K.lookup a = some o) (hc : o.cls = .type "tuple") (hd : o.data = .seq us n) (hz : us.size ≤ 1000) (hs : GVs K us.toList ds) : GV K (.ref a) (.tuple ds) :=
  let ⟨vs, rs, dvs⟩ := hs.ex
  ⟨.ref a, rfl, fun F => .tup (.inr ⟨o, us, n, hk, hc, hd, Nat.le_trans hz (by decide), rs⟩) (dvs F)⟩
end
/-- a def of the module, where the module's names lie -/
structure At (K : PySem.W.Frag) (x : Str) (st : Stmt) : Prop where
  ex : ∃ (f : Addr) (fd : FuncData), PySem.W.nsIn K mainGlobals x = some (some (.ref f)) ∧ Fun K x x st f fd ∧ (fd.defaults = .none)
theorem at_mk {K : PySem.W.Frag} {x : Str} {st : Stmt} {f : Addr} {oc : Value} {od an : Option Addr} {osl : Array (Option Value)} {kV doc pm cdv ct : Value} (a : PySem.W.nsIn K mainGlobals x = some (some (.ref f)))
    (l : K.lookup f = some ⟨oc, od, .func (PySem.W.fnOf x x (defArgs st) (defBody st) (defScope st) .none kV doc pm an cdv ct), osl⟩) (c : PySem.W.codeIn K cdv x = true) (k : PySem.W.keepIn K (.ref f) = true) : At K x st := ⟨f, _, a, fun_mk l c k, rfl⟩
/-- the built-ins' names are free -/
theorem bt_mk {K : PySem.W.Frag} {h : Heap} {mg : Str → Option Value} (X : K.In h) (G : h.Ns mainGlobals mg) (z : ∀ y ∈ (["len", "abs", "repr", "all", "sum", "max", "min", "sorted", "int", "bool", "str", "tuple", "list", "dict", "set", "isinstance", "range", "enumerate", "zip"] : List Str), PySem.W.nsIn K mainGlobals y = some none) : Blt mg :=
  have go : ∀ y ∈ (["len", "abs", "repr", "all", "sum", "max", "min", "sorted", "int", "bool", "str", "tuple", "list", "dict", "set", "isinstance", "range", "enumerate", "zip"] : List Str), mg y = none := fun y hy => PySem.W.mg_none_of X G (z y hy)
  ⟨go _ (by simp), go _ (by simp), go _ (by simp), go _ (by simp), go _ (by simp), go _ (by simp), go _ (by simp), go _ (by simp), go _ (by simp), go _ (by simp), go _ (by simp), go _ (by simp), go _ (by simp), go _ (by simp), go _ (by simp), go _ (by simp), go _ (by simp), go _ (by simp), go _ (by simp)⟩
structure GU (K : PySem.W.Frag) (x : Str) (d : D) : Prop where
  ex : ∃ u : Value, PySem.W.nsIn K mainGlobals x = some (some u) ∧ GV K u d
theorem gu_mk {K : PySem.W.Frag} {x : Str} {d : D} {u : Value} (a : PySem.W.nsIn K mainGlobals x = some (some u)) (v : GV K u d) : GU K x d := ⟨u, a, v⟩
theorem GU.gc {K : PySem.W.Frag} {x : Str} {d : D} {h : Heap} {mg : Str → Option Value} (U : GU K x d) (X : K.In h) (G : h.Ns mainGlobals mg) : GC K mg x d :=
  let ⟨_, a, ⟨⟨v, r, dv⟩⟩⟩ := U.ex
  ⟨v, _, PySem.W.mg_of X G a, r, dv⟩
end Mv

namespace Mv
open L2 PySem.Spec PySem PyProof.Rows

/-! ### truth -/
def tru : D → Option Bool
  | .none => some false
  | .bool b => some b
  | .int i => some (i != 0)
  | .str z => if z.length ≤ LIM then some (decide (0 < z.length)) else none
  | .list xs => some (!xs.isEmpty)
  | .tuple xs => some (!xs.isEmpty)
  | _ => none
@[simp] theorem tru_none : tru .none = some false := rfl
@[simp] theorem tru_bool (b : Bool) : tru (.bool b) = some b := rfl
@[simp] theorem tru_int (i : Int) : tru (.int i) = some (i != 0) := rfl
@[simp] theorem tru_list (xs : List D) : tru (.list xs) = some (!xs.isEmpty) := rfl
@[simp] theorem tru_tuple (xs : List D) : tru (.tuple xs) = some (!xs.isEmpty) := rfl
def truE (d : D) (e : En) : R Bool := match tru d with
  | some b => .ok b e
  | none => .bad
def vTr (f : M Sl) : M Bool := fun en => (vD f en).bind truE
def vOrT (f g : M Sl) : M Sl := fun en => (vD f en).bind fun d e => (truE d e).bind fun b e2 => if b = true then .ok (.val d) e2 else g e2
def vAndT (f g : M Sl) : M Sl := fun en => (vD f en).bind fun d e => (truE d e).bind fun b e2 => if b = true then g e2 else .ok (.val d) e2
section
variable {X : Cx} {W : WX} {a b e : Expr} {rest : List Expr} {pos : Pos} {fa fb f : M Sl}
end

/-! ### list(range(n)) -/
section
variable {X : Cx} {W : WX} {a : Expr} {p p2 pos pos2 : Pos} {f : M Sl}
def vListR (f : M Sl) : M Sl := fun en => (vD f en).bind fun d e => match d with
  | .int n => if n.natAbs ≤ LIM then .ok (.own false (rngD 0 n.toNat)) e else .bad
  | _ => .bad
/-! ### x.extend(e) -/
open PySem.AutoSeq1 in
/-- a list takes in a tuple's items, be the tuple's other fields what they may -/
def sExt (i : Nat) (f : M Sl) : MS := fun en => ownAt i en fun _ _ => (vD f en).bind fun d e => ownAt i e fun b xs => match d with
  | .list ys => if xs.length + ys.length ≤ LIM then .ok .nx (e.set i (.own b (xs ++ ys))) else .bad
  | .tuple ys => if xs.length + ys.length ≤ LIM then .ok .nx (e.set i (.own b (xs ++ ys))) else .bad
  | _ => .bad
end
end Mv

namespace Sh
open PySem Mv
/-! ### common -/
def g_common (n : Nat) : MS := sSeq (whileL (vB (vOp (dCmp fun i j => decide (j < i)) (vVar 1) (vC (.int 0)))) (sPar [0, 1] (lCons (vVar 1) (lCons (vOp dMod (vVar 0) (vVar 1)) (lNil)))) n) (sRetV 0)
def m_common : List D → Option Out := runM 2 2 g_common (fun ds => match ds with | [.int _, .int b] => b.natAbs + 2 | _ => 0)
/-! ### reduced -/
def g_reduced (n : Nat) : MS := sSeq (sSet 2 (vCall m_common (vCons (vCb dAbs (vCons (vVar 0) (vNil))) (vCons (vCb dAbs (vCons (vVar 1) (vNil))) (vNil))))) (sSeq (sIf (vB (vOp (dCmp fun i j => decide (i < j)) (vVar 1) (vC (.int 0)))) (sSet 2 (vOp dSub (vC (.int 0)) (vVar 2))) (sNil)) (sRet (vTup (vCons (vOp dFdiv (vVar 0) (vVar 2)) (vCons (vOp dFdiv (vVar 1) (vVar 2)) (vNil))))))
def m_reduced : List D → Option Out := runM 2 3 g_reduced (fun _ => 0)
/-! ### added -/
def g_added (n : Nat) : MS := sSeq (sSet 1 (vC (.tuple [(.int 0), (.int 1)]))) (sSeq (sFor (vItems (vVar 0)) (pTup (pCons (pNm 2) (pCons (pNm 3) (pNil)))) (sSet 1 (vCall m_reduced (vCons (vOp dAdd (vOp dMul (vIxv 1 (vC (.int 0))) (vVar 3)) (vOp dMul (vVar 2) (vIxv 1 (vC (.int 1))))) (vCons (vOp dMul (vIxv 1 (vC (.int 1))) (vVar 3)) (vNil)))))) (sRetV 1))
def m_added : List D → Option Out := runM 1 4 g_added (fun _ => 0)
/-! ### less -/
def g_less (n : Nat) : MS := sRet (vCall m_reduced (vCons (vOp dSub (vOp dMul (vIxv 0 (vC (.int 0))) (vIxv 1 (vC (.int 1)))) (vOp dMul (vIxv 1 (vC (.int 0))) (vIxv 0 (vC (.int 1))))) (vCons (vOp dMul (vIxv 0 (vC (.int 1))) (vIxv 1 (vC (.int 1)))) (vNil))))
def m_less : List D → Option Out := runM 2 2 g_less (fun _ => 0)
/-! ### times -/
/-! ### compared -/
def g_compared (n : Nat) : MS := sSeq (sPar [2, 3] (lCons (vOp dMul (vIxv 0 (vC (.int 0))) (vIxv 1 (vC (.int 1)))) (lCons (vOp dMul (vIxv 1 (vC (.int 0))) (vIxv 0 (vC (.int 1)))) (lNil)))) (sRet (vOp dSub (vCb dInt (vCons (vOp (dCmp fun i j => decide (j < i)) (vVar 2) (vVar 3)) (vNil))) (vCb dInt (vCons (vOp (dCmp fun i j => decide (i < j)) (vVar 2) (vVar 3)) (vNil)))))
def m_compared : List D → Option Out := runM 2 4 g_compared (fun _ => 0)
/-! ### greatest_of -/
/-! ### is_small -/
/-! ### closes -/
def g_closes (n : Nat) : MS := sSeq (sSet 1 (vCall m_added (vCons (vLc (vItems (vVar 0)) (pTup (pCons (pNm 2) (pCons (pNm 3) (pNil)))) (bYes) (vVar 3) [2, 3]) (vNil)))) (sRet (vCb dAll (vCons (vLc (vItems (vVar 0)) (pTup (pCons (pNm 2) (pCons (pNm 3) (pNil)))) (bYes) (vOp (dCmp fun i j => decide (i ≤ j)) (vCall m_compared (vCons (vVar 2) (vCons (vCall m_less (vCons (vVar 1) (vCons (vVar 3) (vNil)))) (vNil)))) (vC (.int 0))) [2, 3]) (vNil))))
def m_closes : List D → Option Out := runM 1 4 g_closes (fun _ => 0)
/-! ### heaps_of -/
/-! ### closing -/
/-! ### reach_of -/
/-! ### way_to -/
/-! ### _law_bag -/
def g__law_bag (n : Nat) : MS := sRet (vLst (vCons (vC (.int 0)) (vCons (vC (.int 1234567891)) (vCons (vC (.int 0)) (vCons (vLc (vItems (vSl (vVar 0) (oNone) (oSome (vC (.int 63))))) (pNm 1) (bYes) (vCb dAbs (vCons (vVar 1) (vNil))) [1]) (vNil))))))
def m__law_bag : List D → Option Out := runM 1 2 g__law_bag (fun _ => 0)
/-! ### _law_take -/
def g__law_take (n : Nat) : MS := sSeq (sIf (vB (vOp dEq (vIxv 0 (vC (.int 0))) (vC (.int 0)))) (sSeq (sSet 2 (vOp dIx (vOp dAdd (vSl (vIxv 0 (vC (.int 3))) (oSome (vIxv 0 (vC (.int 2)))) (oNone)) (vLst (vCons (vC (.int 0)) (vNil)))) (vC (.int 0)))) (sSeq (sAugS 0 (fun i j => i + j) (vC (.int 2)) (vC (.int 1))) (sSeq (sIf (vB (vOp (dCmp fun i j => decide (j ≤ i)) (vVar 2) (vOp dPow (vC (.int 10)) (vC (.int 18))))) (sStore 0 (vC (.int 0)) (vVar 2)) (sNil)) (sSeq (sSet 3 (vOp dAdd (vOp dAdd (vOp dMul (vIxv 0 (vC (.int 1))) (vC (.int 48271))) (vOp dMod (vCb dInt (vCons (vVar 2) (vNil))) (vC (.int 2147483647)))) (vOp dMul (vC (.int 7919)) (vIxv 0 (vC (.int 2)))))) (sStore 0 (vC (.int 1)) (vOp dMod (vCb dInt (vCons (vVar 3) (vNil))) (vC (.int 2147483647)))))))) (sNil)) (sSeq (sIf (vB (vOp (dCmp fun i j => decide (j < i)) (vIxv 0 (vC (.int 0))) (vC (.int 0)))) (sSeq (sSet 4 (vOp dMod (vCb dInt (vCons (vIxv 0 (vC (.int 0))) (vNil))) (vVar 1))) (sSeq (sStore 0 (vC (.int 0)) (vOp dFdiv (vCb dInt (vCons (vIxv 0 (vC (.int 0))) (vNil))) (vVar 1))) (sRetV 4))) (sNil)) (sSeq (sSet 5 (vOp dMod (vCb dInt (vCons (vOp dMul (vOp dAdd (vIxv 0 (vC (.int 1))) (vC (.int 1))) (vC (.int 39373))) (vNil))) (vC (.int 1000000007)))) (sSeq (sSet 6 (vOp dMod (vCb dInt (vCons (vOp dMul (vOp dMod (vCb dInt (vCons (vOp dMul (vVar 5) (vVar 5)) (vNil))) (vC (.int 998244353))) (vC (.int 30011))) (vNil))) (vC (.int 998244353)))) (sRet (vOp dMod (vCb dInt (vCons (vOp dFdiv (vVar 6) (vC (.int 7))) (vNil))) (vVar 1))))))
def m__law_take : List D → List D → Option (Out × List D) := runB 2 7 g__law_take (fun _ _ => 0)
/-! ### _law_one -/
def g__law_one (n : Nat) : MS := sRet (vIxv 1 (vCallB 0 m__law_take (vCons (vLenv 1) (vNil))))
def m__law_one : List D → List D → Option (Out × List D) := runB 2 2 g__law_one (fun _ _ => 0)
/-! ### _law_alike -/
def g__law_alike (n : Nat) : MS := sRet (vAnd (vOp dEq (vVar 0) (vVar 1)) (vOp dEq (vCb dRepr (vCons (vVar 0) (vNil))) (vCb dRepr (vCons (vVar 1) (vNil)))))
def m__law_alike : List D → Option Out := runM 2 2 g__law_alike (fun _ => 0)
/-! ### _law_shared -/
def g__law_shared (n : Nat) : MS := sSeq (sPar [0, 1] (lCons (vCb dAbs (vCons (vVar 0) (vNil))) (lCons (vCb dAbs (vCons (vVar 1) (vNil))) (lNil)))) (sSeq (whileL (vB (vOp dNe (vVar 1) (vC (.int 0)))) (sPar [0, 1] (lCons (vVar 1) (lCons (vOp dMod (vCb dInt (vCons (vVar 0) (vNil))) (vVar 1)) (lNil)))) n) (sRetV 0))
def m__law_shared : List D → Option Out := runM 2 2 g__law_shared (fun ds => match ds with | [.int _, .int b] => b.natAbs + 2 | _ => 0)
/-! ### _law_ratio -/
def g__law_ratio (n : Nat) : MS := sSeq (sSet 2 (vOp dMul (vCall m__law_shared (vCons (vVar 0) (vCons (vVar 1) (vNil)))) (vIf (vB (vOp (dCmp fun i j => decide (j < i)) (vVar 1) (vC (.int 0)))) (vC (.int 1)) (vUn dNeg (vC (.int 1)))))) (sRet (vTup (vCons (vOp dFdiv (vCb dInt (vCons (vVar 0) (vNil))) (vVar 2)) (vCons (vOp dFdiv (vCb dInt (vCons (vVar 1) (vNil))) (vVar 2)) (vNil)))))
def m__law_ratio : List D → Option Out := runM 2 3 g__law_ratio (fun _ => 0)
/-! ### _law_plus -/
def g__law_plus (n : Nat) : MS := sSeq (sPar [1, 2] (lCons (vC (.int 0)) (lCons (vC (.int 1)) (lNil)))) (sSeq (sFor (vItems (vVar 0)) (pNm 3) (sPar [1, 2] (lCons (vOp dAdd (vOp dMul (vVar 1) (vIxv 3 (vC (.int 1)))) (vOp dMul (vIxv 3 (vC (.int 0))) (vVar 2))) (lCons (vOp dMul (vVar 2) (vIxv 3 (vC (.int 1)))) (lNil))))) (sRet (vCall m__law_ratio (vCons (vVar 1) (vCons (vVar 2) (vNil))))))
def m__law_plus : List D → Option Out := runM 1 4 g__law_plus (fun _ => 0)
/-! ### _law_minus -/
def g__law_minus (n : Nat) : MS := sRet (vCall m__law_ratio (vCons (vOp dSub (vOp dMul (vIxv 0 (vC (.int 0))) (vIxv 1 (vC (.int 1)))) (vOp dMul (vIxv 1 (vC (.int 0))) (vIxv 0 (vC (.int 1))))) (vCons (vOp dMul (vIxv 0 (vC (.int 1))) (vIxv 1 (vC (.int 1)))) (vNil))))
def m__law_minus : List D → Option Out := runM 2 2 g__law_minus (fun _ => 0)
/-! ### _law_by -/
def g__law_by (n : Nat) : MS := sRet (vCall m__law_ratio (vCons (vOp dMul (vIxv 0 (vC (.int 0))) (vIxv 1 (vC (.int 0)))) (vCons (vOp dMul (vIxv 0 (vC (.int 1))) (vIxv 1 (vC (.int 1)))) (vNil))))
def m__law_by : List D → Option Out := runM 2 2 g__law_by (fun _ => 0)
/-! ### _law_over -/
/-! ### _law_below -/
def g__law_below (n : Nat) : MS := sRet (vOp (dCmp fun i j => decide (i < j)) (vOp dMul (vIxv 0 (vC (.int 0))) (vIxv 1 (vC (.int 1)))) (vOp dMul (vIxv 1 (vC (.int 0))) (vIxv 0 (vC (.int 1)))))
def m__law_below : List D → Option Out := runM 2 2 g__law_below (fun _ => 0)
/-! ### _law_highest -/
/-! ### _law_integer -/
def g__law_integer (n : Nat) : MS := sRet (vAnd (vUn (isiD "int") (vVar 0)) (vNot (vUn (isiD "bool") (vVar 0))))
def m__law_integer : List D → Option Out := runM 1 1 g__law_integer (fun _ => 0)
/-! ### _law_is_fraction -/
def g__law_is_fraction (n : Nat) : MS := sSeq (sIf (bOr (bNot (vB (vUn (isiD "tuple") (vVar 0)))) (bOr (vB (vOp dNe (vLenv 0) (vC (.int 2)))) (bOr (bNot (vB (vCall m__law_integer (vCons (vIxv 0 (vC (.int 0))) (vNil))))) (bNot (vB (vCall m__law_integer (vCons (vIxv 0 (vC (.int 1))) (vNil)))))))) (sRet (vC (.bool false))) (sNil)) (sRet (vAnd (vOp (dCmp fun i j => decide (j < i)) (vIxv 0 (vC (.int 1))) (vC (.int 0))) (vOp dEq (vCall m__law_shared (vCons (vIxv 0 (vC (.int 0))) (vCons (vIxv 0 (vC (.int 1))) (vNil)))) (vC (.int 1)))))
def m__law_is_fraction : List D → Option Out := runM 1 1 g__law_is_fraction (fun _ => 0)
/-! ### _law_is_sizes -/
/-! ### _law_bounds -/
def g__law_bounds (n : Nat) : MS := sSeq (sSet 2 (vCallB 0 m__law_one (vCons (vLst (vCons (vC (.int 1)) (vCons (vC (.int 2)) (vCons (vC (.int 0)) (vCons (vVar 1) (vCons (vCallB 0 m__law_take (vCons (vOp dAdd (vVar 1) (vC (.int 1))) (vNil))) (vNil))))))) (vNil)))) (sSeq (sSet 3 (vCallB 0 m__law_one (vCons (vLst (vCons (vVar 2) (vCons (vOp dAdd (vVar 2) (vC (.int 1))) (vCons (vVar 2) (vCons (vVar 1) (vCons (vOp dMul (vC (.int 2)) (vVar 2)) (vCons (vOp dAdd (vVar 2) (vCallB 0 m__law_take (vCons (vC (.int 4)) (vNil)))) (vNil)))))))) (vNil)))) (sSeq (sPar [2, 3] (lCons (vCb dMin (vCons (vVar 2) (vCons (vVar 1) (vNil)))) (lCons (vCb dMin (vCons (vVar 3) (vCons (vVar 1) (vNil)))) (lNil)))) (sRet (vTup (vCons (vCb dMin (vCons (vVar 2) (vCons (vVar 3) (vNil)))) (vCons (vCb dMax (vCons (vVar 2) (vCons (vVar 3) (vNil)))) (vNil)))))))
def m__law_bounds : List D → List D → Option (Out × List D) := runB 2 4 g__law_bounds (fun _ _ => 0)
/-! ### _law_spans -/
def g__law_spans (n : Nat) : MS := sSeq (sSet 3 (vLst (vNil))) (sSeq (sFor (vRng1 (vCons (vVar 1) (vNil))) (pNm 4) (sSeq (sSet 5 (vCallB 0 m__law_one (vCons (vLst (vCons (vC (.int 1)) (vCons (vC (.int 1)) (vCons (vC (.int 2)) (vCons (vC (.int 3)) (vCons (vC (.int 6)) (vNil))))))) (vNil)))) (sSeq (sAsg (pTup (pCons (pNm 6) (pCons (pNm 7) (pNil)))) (vCallB 0 m__law_bounds (vCons (vVar 2) (vNil)))) (sApp 3 (vTup (vCons (vCall m__law_ratio (vCons (vVar 6) (vCons (vVar 5) (vNil)))) (vCons (vCall m__law_ratio (vCons (vVar 7) (vCons (vVar 5) (vNil)))) (vNil)))))))) (sRet (vCb dTuple (vCons (vVar 3) (vNil)))))
def m__law_spans : List D → List D → Option (Out × List D) := runB 3 8 g__law_spans (fun _ _ => 0)
/-! ### _law_heaps_hold -/
/-! ### _law_is_closing -/
/-! ### _law_turned -/
/-! ### _law_scaled -/
/-! ### _law_reach -/
/-! ### _law_is_within -/
/-! ### least_of -/
def g_least_of (n : Nat) : MS := sSeq (sSet 1 (vIxv 0 (vC (.int 0)))) (sSeq (sFor (vItems (vSl (vVar 0) (oSome (vC (.int 1))) (oNone))) (pNm 2) (sSet 1 (vIf (vB (vOp (dCmp fun i j => decide (i < j)) (vCall m_compared (vCons (vVar 2) (vCons (vVar 1) (vNil)))) (vC (.int 0)))) (vVar 2) (vVar 1)))) (sRetV 1))
def m_least_of : List D → Option Out := runM 1 3 g_least_of (fun _ => 0)
/-! ### span_left -/
/-! ### spans_left -/
/-! ### _law_mixed -/
/-! ### _law_closes -/
/-! ### _law_is_spans -/
/-! ### _law_with_span -/
/-! ### _law_is_left -/
end Sh

namespace Mv
open L2 PySem.Spec PySem PyProof.Rows

/-! ### own lists lent to a def that gives a number, text, truth or None -/
inductive Ag where
  | d (x : D)
  | slot (i : Nat)
def agOf (e : En) : Ag → Option D
  | .d x => some x
  | .slot i => match e[i]? with
    | some (.val x) => some x
    | some (.own _ xs) => some (.list xs)
    | _ => none
def agsOf (e : En) : List Ag → Option (List D)
  | [] => some []
  | a :: as => (agOf e a).bind fun x => (agsOf e as).map (x :: ·)
inductive AgR (K : PySem.W.Frag) (σ : L2.St) (F : Hp) : V → Ag → Prop
  | d {v : V} {x : D} : Dp K F v x → AgR K σ F v (.d x)
  | slot {v : V} {i : Nat} : σ[i]? = some (some v) → AgR K σ F v (.slot i)
inductive AgsR (K : PySem.W.Frag) (σ : L2.St) (F : Hp) : List V → List Ag → Prop
  | nil : AgsR K σ F [] []
  | cons {v : V} {vs : List V} {a : Ag} {as : List Ag} : AgR K σ F v a → AgsR K σ F vs as → AgsR K σ F (v :: vs) (a :: as)
section
variable {K : PySem.W.Frag} {mg : Str → Option Value} {B : Bs} {W : WX} {σ : L2.St} {en : En} {F F' H : Hp}
theorem AgR.mono {v : V} {a : Ag} (s : Same F F') (h : AgR K σ F v a) : AgR K σ F' v a := by
  cases h with
  | d h => exact .d (dp_mono s h)
  | slot h => exact .slot h
open Classical in
/-- all own lists frozen at once, for a callee alone -/
theorem Sim.lend (S : Sim K B σ en F H) : ∃ G, Same F G ∧ Same G H ∧ ∀ (i : Nat) (b : Bool) (xs : List D), en[i]? = some (.own b xs) → ∃ v, σ[i]? = some (some v) ∧ Dp K G v (.list xs) := by
  let G : Hp := fun a => match F a with
    | some o => some o
    | none => if ∃ i, isOwn en i ∧ σ[i]? = some (some (.ref a)) then H a else none
  have s1 : Same F G := fun a o e => by
    show (match F a with | some o => some o | none => _) = some o
    rw [e]
  have s2 : Same G H := fun a o e => by
    have e' : (match F a with | some o => some o | none => if ∃ i, isOwn en i ∧ σ[i]? = some (some (.ref a)) then H a else none) = some o := e
    cases hf : F a with
    | some u =>
      rw [hf] at e'
      cases e'
      exact S.sub _ _ hf
    | none =>
      rw [hf] at e'
      dsimp only at e'
      split at e'
      · exact e'
      · cases e'
  refine ⟨G, s1, s2, fun i b xs h => ?_⟩
  obtain ⟨a, vs, h1, h2, h3, h4, _⟩ := S.own i b xs h
  refine ⟨.ref a, h1, .lst (.inl ?_) (dps_mono s1 h4)⟩
  show (match F a with | some o => some o | none => if ∃ i, isOwn en i ∧ σ[i]? = some (some (.ref a)) then H a else none) = some (.lst vs)
  rw [h3]
  dsimp only
  rw [if_pos ⟨i, isOwn_out h, h1⟩]
  exact h2
theorem Sim.args (S : Sim K B σ en F H) {G : Hp} (s : Same F G) (hG : ∀ (i : Nat) (b : Bool) (xs : List D), en[i]? = some (.own b xs) → ∃ v, σ[i]? = some (some v) ∧ Dp K G v (.list xs)) : ∀ {as : List Ag} {vs : List V} {ds : List D}, AgsR K σ F vs as → agsOf en as = some ds → DpAll K G vs ds
  | [], _, ds, .nil, h => by cases h; exact .nil
  | a :: as, _, ds, .cons r rs, h => by
    obtain ⟨x, h1, h2⟩ := Option.bind_eq_some_iff.mp h
    obtain ⟨xs, h3, rfl⟩ := Option.map_eq_some_iff.mp h2
    refine .cons ?_ (Sim.args S s hG rs h3)
    cases r with
    | d r => cases h1; exact dp_mono s r
    | slot r =>
      rename_i i
      unfold agOf at h1
      dsimp only at h1
      split at h1
      · rename_i y hy
        cases h1
        obtain ⟨v, e1, e2⟩ := S.val i _ hy
        rw [r] at e1
        cases e1
        exact dp_mono s e2
      · rename_i b ys hy
        cases h1
        obtain ⟨v, e1, e2⟩ := hG i b ys hy
        rw [r] at e1
        cases e1
        exact e2
      · cases h1
end
def tAgs (K : PySem.W.Frag) (mg : Str → Option Value) (B : Bs) (W : WX) (g : M (List Ag)) : TA := fun σ H Q => ∃ F en, Sim K B σ en F H ∧ Post K mg B W σ F (fun as _ F' H' => ∀ vs, AgsR K σ F' vs as → Q vs H') (g en)
def VAs (X : Cx) (W : WX) (es : List Expr) (g : M (List Ag)) : Prop := ∀ B, PA X es (tAgs X.K X.mg B W g)
def aNil : M (List Ag) := fun en => .ok [] en
def aCons (f : M Sl) (g : M (List Ag)) : M (List Ag) := fun en => (vD f en).bind fun d e => (g e).bind fun as e2 => .ok (.d d :: as) e2
def aLend (i : Nat) (g : M (List Ag)) : M (List Ag) := fun en => match en[i]? with
  | some .no => .bad
  | none => .bad
  | _ => (g en).bind fun as e2 => .ok (.slot i :: as) e2
/-- what may come back -/
def scal0 : D → Bool
  | .none | .bool _ |
                                                                                                                .int _ | .str _ => true
  | _ => false
def lendR (o : Option Out) (e : En) : R Sl := match o with
  | some (.ret (.val d)) => if scal0 d = true then .ok (.val d) e else .bad
  | _ => .bad
def vCallL (m : List D → Option Out) (g : M (List Ag)) : M Sl := fun en => (g en).bind fun as e => match agsOf e as with
  | some ds => lendR (m ds) e
  | none => .bad
section
variable {X : Cx} {W : WX} {e : Expr} {es : List Expr} {x y : Str} {p py pos : Pos} {g : M (List Ag)} {k : Nat} {m : List D → Option Out} {f : M Sl}
theorem vas_nil : VAs X W [] aNil := fun B => paWk pa_nil fun σ H Q ⟨F, en, S, p⟩ => p F H S (.refl _) [] .nil
theorem vas_cons (h : VE X W e f) (hr : VAs X W es g) (hs : starEach (e :: es) X.env = (false, eval e X.env) :: starEach es X.env := by rfl) : VAs X W (e :: es) (aCons f g) := fun B =>
  paWk (pa_cons (h.d B) (hr B) hs) fun σ H Q ⟨F, en, S, p⟩ => by
    refine ⟨F, en, S, (Post.bind p).imp fun d en1 F1 H1 S1 s1 q v rv => ?_⟩
    refine ⟨F1, en1, S1, (Post.bind q).imp fun as en2 F2 H2 S2 s2 q2 vs rvs => ?_⟩
    exact q2 F2 H2 S2 (.refl _) _ (.cons (.d (dp_mono s2 rv)) rvs)
theorem vas_lend (i : Nat) (hr : VAs X W es g) (hN : X.N[i]? = some x := by rfl) (hv : Vis X.env.scope x := by first | exact Or.inl rfl | exact Or.inr (Or.inl rfl) | exact Or.inr (Or.inr rfl)) (hd : (x == ("__debug__" : Str)) = false := by decide)
    (hcd : (x == ("__classdict__" : Str)) = false := by decide) (hs : starEach (.Name x p :: es) X.env = (false, eval (.Name x p) X.env) :: starEach es X.env := by rfl) : VAs X W (.Name x p :: es) (aLend i g) := fun B =>
  paWk (pa_cons (pe_var hN hv hd hcd) (hr B) hs) fun σ H Q ⟨F, en, S, q⟩ => by
    have go : ∀ v, σ[i]? = some (some v) → Post X.K X.mg B W σ F (fun as _ F' H' => ∀ vs, AgsR X.K σ F' vs as → Q vs H') ((g en).bind fun as e2 => .ok (.slot i :: as) e2) → ∃ v, σ[i]? = some (some v) ∧ tAgs X.K X.mg B W g σ H fun vs H2 => Q (v :: vs) H2 := fun v hv q =>
      ⟨v, hv, F, en, S, (Post.bind q).imp fun as en2 F2 H2 S2 s2 q2 vs rvs => q2 F2 H2 S2 (.refl _) _ (.cons (.slot hv) rvs)⟩
    unfold aLend at q
    cases hh : en[i]? with
    | none => rw [hh] at q; exact q.elim
    | some s =>
      rw [hh] at q
      cases s with
      | no => exact q.elim
      | val d =>
        obtain ⟨v, h1, _⟩ := S.val i d hh
        exact go v h1 q
      | own b xs =>
        obtain ⟨a, vs, h1, _⟩ := S.own i b xs hh
        exact go _ h1 q
theorem ve_callL (C : FnV X.prog X.w X.K X.mg X.base x k m) (hr : RoomG k X.A) (tk : Takes X W) (ha : VAs X W (e :: es) g)
    (hg : Gl X x := by rfl) (hdb : (x == ("__debug__" : Str)) = false := by decide) (he : starEach (e :: es) X.env = (false, eval e X.env) :: starEach es X.env := by rfl) (hpl : (backTo pos (starEach es X.env)).any (·.1) = false := by rfl) :
    VE X W (.Call (.Name x p) (e :: es) [] pos) (vCallL m g) := fun B => by
  obtain ⟨fa, fd, ps, FO, hm, hk, hb⟩ := C.ex
  refine peWk (pe_callG (E := WE W) FO hr hg hm hk hb (fun σ => passAt tk σ) (ha B) hdb he hpl) fun σ H Q ⟨F, en, S, q⟩ => ?_
  refine ⟨F, en, S, (Post.bind q).imp fun as en1 F1 H1 S1 s1 q1 vs rv => ?_⟩
  cases hd : agsOf en1 as with
  | none => rw [hd] at q1; exact q1.elim
  | some ds =>
    rw [hd] at q1
    dsimp only at q1
    obtain ⟨G, g1, g2, g3⟩ := S1.lend
    have dv := S1.args g1 g3 rv hd
    refine ⟨G, ds, g2, dv, ?_⟩
    cases hmm : m ds with
    | none => rw [hmm] at q1; exact q1.elim
    | some o =>
      rw [hmm] at q1
      cases o with
      | exc c fs => exact q1.elim
      | ret r =>
        cases r with
        | no => exact q1.elim
        | own b xs => exact q1.elim
        | val d =>
          unfold lendR at q1
          dsimp only at q1
          intro F' H' v gr hv
          by_cases hs : scal0 d = true
          · rw [if_pos hs] at q1
            have gr2 : Gr F1 H1 F1 H' := ⟨.refl _, S1.sub.trans gr.hh, gr.hh, fun _ _ z => .inl z⟩
            have hv : Dp X.K F' v d := hv
            refine q1 F1 H' (S1.gr gr2) (.refl _) v ?_
            cases hv with
            | non => exact Dp.non
            | bl b => exact Dp.bl b
            | int i => exact Dp.int i
            | str z => exact Dp.str z
            | lst _ _ => cases hs
            | tup _ _ => cases hs
            | dic _ _ => cases hs
            | dit _ _ _ => cases hs
            | sob _ _ _ _ => cases hs
            | opq _ => cases hs
          · rw [if_neg hs] at q1
            exact q1.elim
end
end Mv

namespace Mv
open L2 PySem.Spec PySem PyProof.Rows

/-! ### a slice of a name: its own list stays own -/
def vSlv (i : Nat) (l h : M (Option Int)) : M Sl := fun en => match en[i]? with
  | some (.val d) => (l en).bind fun lo e2 => (h e2).bind fun hi e3 => opt (dSl d lo hi) e3
  | some (.own _ _) => (l en).bind fun lo e2 => (h e2).bind fun hi e3 => ownE i e3 fun _ xs => opt (some (.own false (cutD xs lo hi))) e3
  | _ => .bad
section
variable {X : Cx}
theorem ve_slv {W : WX} {i : Nat} {x : Str} {p p2 pos : Pos} {lo hi : Option Expr} {l h : M (Option Int)} (hl : VO X W lo l) (hh : VO X W hi h) (hN : X.N[i]? = some x := by rfl) (hv : Vis X.env.scope x := by first | exact Or.inl rfl | exact Or.inr (Or.inl rfl) | exact Or.inr (Or.inr rfl)) (hd : (x == ("__debug__" : Str)) = false := by decide)
    (hcd : (x == ("__classdict__" : Str)) = false := by decide) : VE X W (.Subscript (.Name x p) (.Slice lo hi none p2) pos) (vSlv i l h) := fun B =>
  peWk (pe_slice (sl_list.or (sl_tupA.or sl_str)) (pe_var hN hv hd hcd) (hl B) (hh B)) fun σ H Q ⟨F, en, S, q⟩ => by
    unfold vSlv at q
    split at q
    · rename_i d hi0
      obtain ⟨v, h1, h2⟩ := S.val i d hi0
      refine ⟨v, h1, F, en, S, (Post.bind q).imp fun a en2 F2 H2 S2 s2 q2 => ?_⟩
      refine ⟨F2, en2, S2, (Post.bind q2).imp fun b en3 F3 H3 S3 s3 q3 => ?_⟩
      exact rd_sl S3.sub (dp_mono (s2.trans s3) h2) (Post.opt S3 q3)
    · rename_i b0 xs0 hi0
      obtain ⟨a0, vs0, e0, _⟩ := S.slotL hi0
      refine ⟨_, e0, F, en, S, (Post.bind q).imp fun a en2 F2 H2 S2 s2 q2 => ?_⟩
      refine ⟨F2, en2, S2, (Post.bind q2).imp fun b en3 F3 H3 S3 s3 q3 => ?_⟩
      unfold ownE at q3
      split at q3
      · rename_i b1 xs h1
        obtain ⟨a1, vs, e1, l1, r1, _⟩ := S3.slotL h1
        rw [e0] at e1
        cases e1
        exact .inl ⟨a0, vs, rfl, .inl (.inl l1), (Post.opt S3 q3).lst S3.sub (dps_cut r1 _ _)⟩
      · exact q3.elim
    · exact q.elim
end
end Mv

namespace Sh
open PySem Mv
/-! ### boxes_to -/
/-! ### input_at -/
/-! ### spans_at -/
/-! ### next_range -/
/-! ### follows -/
/-! ### _law_sizes -/
/-! ### _law_some_bound -/
/-! ### _law_some_span -/
/-! ### _law_net -/
/-! ### _law_boxes_to -/
/-! ### _law_inputs -/
/-! ### _law_reach -/
/-! ### _law_net_spans -/
/-! ### _law_next -/
/-! ### _law_within -/
def g__law_within (n : Nat) : MS := sRet (vAnd (vNot (vCall m__law_below (vCons (vVar 1) (vCons (vIxv 0 (vC (.int 0))) (vNil))))) (vNot (vCall m__law_below (vCons (vIxv 0 (vC (.int 1))) (vCons (vVar 1) (vNil))))))
def m__law_within : List D → Option Out := runM 2 2 g__law_within (fun _ => 0)
/-! ### _law_follow -/
/-! ### _law_mean -/
def g__law_mean (n : Nat) : MS := sSeq (sAsg (pTup (pCons (pNm 2) (pCons (pNm 3) (pNil)))) (vVar 1)) (sSeq (sSet 4 (vCallB 0 m__law_one (vCons (vLst (vCons (vTup (vCons (vC (.int 0)) (vCons (vC (.int 1)) (vNil)))) (vCons (vTup (vCons (vC (.int 1)) (vCons (vC (.int 1)) (vNil)))) (vCons (vTup (vCons (vC (.int 1)) (vCons (vC (.int 2)) (vNil)))) (vCons (vTup (vCons (vC (.int 1)) (vCons (vC (.int 3)) (vNil)))) (vCons (vTup (vCons (vC (.int 3)) (vCons (vC (.int 4)) (vNil)))) (vNil))))))) (vNil)))) (sRet (vCall m__law_plus (vCons (vLst (vCons (vVar 2) (vCons (vCall m__law_by (vCons (vVar 4) (vCons (vCall m__law_minus (vCons (vVar 3) (vCons (vVar 2) (vNil)))) (vNil)))) (vNil)))) (vNil)))))
def m__law_mean : List D → List D → Option (Out × List D) := runB 2 5 g__law_mean (fun _ _ => 0)
/-! ### _law_beyond -/
end Sh

namespace Mv
open L2 PySem.Spec PySem PyProof.Rows

/-! ### dicts that are only told of: {} and {key: a constant} -/
def vDic0 : M Sl := fun en => .ok (.val (.dict [])) en
def vDic1 (k : Key) (d : D) : M Sl := fun en => .ok (.val (.dict [(keyD k, d)])) en
section
variable {X : Cx} {W : WX}
end
end Mv

/-! ### t[::-1], xs[::-1] -/
namespace HT
open PySem PySem.W
                                                                                                              PySem.Calls PyProof.Rows PyProof.V PySem.Spec
section
variable {prog : Program} {w : World} {A :
                                                                                                              Around} {E : Value → Shared → Prop} {s : Shared}
end
end HT
namespace Mv
open L2 PySem.Spec PySem PyProof.Rows
section
variable {X : Cx}
def dRev : D → Option Sl
  | .list xs => some (.own false xs.reverse)
  | .tuple xs => some (.val (.tuple xs.reverse))
  | _ => none
variable {W : WX}
def dBool : List D → Option Sl
  | [.int i] => some (.val (.bool (i != 0)))
  | [.bool b] => some (.val (.bool b))
  | _ => none
end
end Mv
namespace Mv
open L2 PySem.Spec PySem PyProof.Rows
/-! ### a def that calls itself: the promise by depths; at depth 0 it promises nothing -/
section
variable {P : Program} {w : World} {K : PySem.W.Frag} {mg : Str → Option Value} {base : Heap} {x : Str} {k : Nat} {f : Addr} {fd : FuncData} {ps : List Str} {qual : Str} {st : Stmt}
end
end Mv

namespace Mv
open L2 PySem.Spec PySem PyProof.Rows

/-! ### a comprehension over a name's own list: it stays own -/
def lcvR (i : Nat) (xs : List D) : R Sl → R Sl
  | .ok r e => match e[i]? with
    | some .no => .ok r (e.set i (.own false xs))
    | _ => .bad
  | _ => .bad
def vLcv (i : Nat) (mode : List D → List D) (pat : D → En → Option En) (tt : M Bool) (el : M Sl) (vs : List Nat) : M Sl := fun en => match en[i]? with
  | some (.own false xs) => lcvR i xs (vLc (fun e => .ok (mode xs) e) pat tt el vs (en.set i .no))
  | some (.val d) => match seqOf d with
    | some xs => vLc (fun e => .ok (mode xs) e) pat tt el vs en
    | none => .bad
  | _ => .bad
section
variable {K : PySem.W.Frag} {mg : Str → Option Value} {B : Bs} {σ : L2.St} {en : En} {F F' H H' : Hp}
end
theorem Sim.base {K : PySem.W.Frag} {B : Bs} {σ σ' : L2.St} {en en' : En} {F F' H H' : Hp} (S : Sim K B σ en F H) (S' : Sim K ⟨F, B.Kp, B.Z, B.io⟩ σ' en' F' H') : Sim K B σ' en' F' H' :=
  ⟨S'.len, S'.sub, S.f0.trans S'.f0, fun c o e => (S'.new c o e).elim (fun z => S.new c o z) .inr, S'.kp, S'.z, S'.val, S'.own, S'.apart⟩
section
variable {X : Cx} {W : WX} {elt tg : Expr} {ifs : List Expr} {scope : Scope} {pos p0 p1 : Pos} {x : Str} {i : Nat} {pat : D → En → Option En} {tt : M Bool} {el : M Sl}
end
end Mv

namespace Sh
open PySem Mv
/-! ### is_integer -/
def g_is_integer (n : Nat) : MS := sRet (vAnd (vUn (isiD "int") (vVar 0)) (vNot (vUn (isiD "bool") (vVar 0))))
def m_is_integer : List D → Option Out := runM 1 1 g_is_integer (fun _ => 0)
/-! ### is_tuple_of -/
def g_is_tuple_of (n : Nat) : MS := sRet (vAnd (vUn (isiD "tuple") (vVar 0)) (vOp dEq (vLenv 0) (vVar 1)))
def m_is_tuple_of : List D → Option Out := runM 2 2 g_is_tuple_of (fun _ => 0)
/-! ### is_fraction -/
def g_is_fraction (n : Nat) : MS := sSeq (sIf (bOr (bNot (vB (vCall m_is_tuple_of (vCons (vVar 0) (vCons (vC (.int 2)) (vNil)))))) (bOr (bNot (vB (vCall m_is_integer (vCons (vIxv 0 (vC (.int 0))) (vNil))))) (bNot (vB (vCall m_is_integer (vCons (vIxv 0 (vC (.int 1))) (vNil))))))) (sRet (vC (.bool false))) (sNil)) (sRet (vAnd (vOp (dCmp fun i j => decide (j < i)) (vIxv 0 (vC (.int 1))) (vC (.int 0))) (vOp dEq (vCall m_common (vCons (vCb dAbs (vCons (vIxv 0 (vC (.int 0))) (vNil))) (vCons (vIxv 0 (vC (.int 1))) (vNil)))) (vC (.int 1)))))
def m_is_fraction : List D → Option Out := runM 1 1 g_is_fraction (fun _ => 0)
/-! ### is_sizes -/
/-! ### is_course -/
/-! ### _law_is_course -/
/-! ### _law_gone -/
/-! ### _law_near -/
/-! ### is_below -/
/-! ### are_heaps -/
/-! ### is_within -/
/-! ### is_closing -/
/-! ### _law_odd -/
/-! ### _law_bent -/
/-! ### _law_edge_spans -/
/-! ### _law_can_heap -/
end Sh

/-! ### sorted of values that can be compared: lists and tuples, to any depth -/
namespace Mv
open L2 PySem.Spec PySem PyProof.Rows
section
variable {prog : Program} {w : World} {A :
                                                                                                              Around} {E : Value → Shared → Prop} {s : Shared}
end
section
variable {X : Cx} {pins : List
                                                                                                              (Addr × Obj)} {σ : L2.St} {H : Hp} {s : Shared}
end
section
variable {X : Cx}
end
end Mv

namespace Mv
open L2 PySem.Spec PySem PyProof.Rows

/-! ### targets that are items of own lists: a[i], a[j] = x, y -/
section
variable {X : Cx} {W : WX}
def runT : List (D → MS) → List D → MS
  | [], [], e => .ok .nx e
  | m :: ms, d :: ds, e => match m d e with
    | .ok .nx e2 => runT ms ds e2
    | .ok _ _ => .bad
    | .exc c fs e2 => .exc c fs e2
    | .bad => .bad
  | _, _, _ => .bad
variable {x : Str} {p p2 pos : Pos} {e ek : Expr} {es : List Expr} {m : D → MS} {ms : List (D → MS)} {fk : M Sl}
def sParT (ms : List (D → MS)) (g : M (List D)) : MS := fun en => (g en).bind fun ds e => if ds.length = ms.length ∧ ds.length ≤ 1000 then runT ms ds e else .bad
/-! ### x.pop(e) -/
def popAt (i : Nat) (k : D) (e : En) : R Sl := match e[i]? with
  | some (.own b xs) => match k with
    | .int k => match ixN xs.length k with
      | some j => match xs[j]? with
        | some d => if xs.length ≤ LIM then .ok (.val d) (e.set i (.own b (xs.eraseIdx j))) else .bad
        | none => .bad
      | none => .bad
    | _ => .bad
  | _ => .bad
def isOwnB (e : En) (i : Nat) : Bool := match e[i]? with
  | some (.own _ _) => true
  | _ => false
def vPop (i : Nat) (g : M (List D)) : M Sl := fun en => if isOwnB en i = true then (g en).bind fun ks e => match ks with
    | [k] => popAt i k e
    | _ => .bad
  else .bad
end
end Mv

namespace Mv
open L2 PySem.Spec PySem PyProof.Rows
/-! ### sorted(set(xs)), xs a list of ints -/
section
variable {P : Program} {w : World} {A :
                                                                                                              Around} {E : Value → Shared → Prop} {s : Shared}
end

/-- the members once, in order -/
def dedup : List Int → List Int
  | [] => []
  | n :: ns => if n ∈ ns then dedup ns else n :: dedup ns
def sortSet (ns : List Int) : List Int := (dedup ns).mergeSort fun a b => decide (a ≤ b)
section
variable {X : Cx} {W : WX} {a : Expr} {p p2 q pos : Pos} {f : M Sl}
def vSortSet (f : M Sl) : M Sl := fun en => (vD f en).bind fun d e => match d with
  | .list ds => match intsOf ds with
    | some ns => if ns.length < 64 then .ok (.own false ((sortSet ns).map PyData.int)) e else .bad
    | none => .bad
  | _ => .bad
end
end Mv

namespace Mv
open L2 PySem.Spec PySem PyProof.Rows

/-! ### comprehensions of two sources -/
def tI2 (K : PySem.W.Frag) (mg : Str → Option Value) (B : Bs) (W : WX) (f : M (List D)) : TI := fun σ H R => ∃ F en, Sim K B σ en F H ∧ Post K mg B W σ F (fun ds _ F' H' => ∀ J, (∀ Fk, Wk K Fk F' J ds) → R J H') (f en)
def VI2 (X : Cx) (W : WX) (tg e : Expr) (f : M (List D)) : Prop := ∀ B, PI X tg e (tI2 X.K X.mg B W f)
section
variable {X : Cx} {W : WX} {tg e a b : Expr} {f : M Sl} {g : M (List D)} {p pos : Pos}
theorem wi2_seq (h : VE X W e f) : VI2 X W tg e (vItems f) := fun B => piWk (pi_seq (h.d B)) fun σ H R ⟨F, en, S, p⟩ => by
  refine ⟨F, en, S, (Post.bind p).imp fun d en1 F1 H1 S1 s1 q v rv => ?_⟩
  cases d with
  | list ds =>
    cases rv with
    | lst h1 h2 => exact .inl ⟨_, _, rfl, S1.sub.seq (.inl h1), q F1 H1 S1 (.refl _) _ fun _ => wk_list (.inl h1) h2⟩
  | tuple ds =>
    cases rv with
    | tup h1 h2 => exact .inr (.inl ⟨_, _, rfl, sqT_mono S1.sub h1, q F1 H1 S1 (.refl _) _ fun _ => wk_tup h1 h2⟩)
  | str z =>
    cases rv
    exact .inr (.inr ⟨z, rfl, q F1 H1 S1 (.refl _) _ fun _ => wk_str⟩)
  | _ => exact q.elim
end
def lcL2 (pat : D → En → Option En) (tt : M Bool) (it1 : M (List D)) (pat1 : D → En → Option En) (tt1 : M Bool) (el : M Sl) (vs vs1 : List Nat) : List D → En → R (List D)
  | [], e => .ok [] e
  | d :: ds, e => match pat d e with
    | none => .bad
    | some e1 => (noX (tt e1)).bind fun b e2 => if b = true then (noX (it1 e2)).bind fun xs1 e3 => (lcL pat1 tt1 el vs1 xs1 (wipeE e3 vs1)).bind fun ys e4 => (lcL2 pat tt it1 pat1 tt1 el vs vs1 ds (wipeE e4 vs)).bind fun zs e5 => .ok (ys ++ zs) e5
      else lcL2 pat tt it1 pat1 tt1 el vs vs1 ds (wipeE e2 vs)
def vLc2 (it : M (List D)) (pat : D → En → Option En) (tt : M Bool) (it1 : M (List D)) (pat1 : D → En → Option En) (tt1 : M Bool) (el : M Sl) (vs vs1 : List Nat) : M Sl := fun en => (it en).bind fun xs e => if noOwn e vs = true then
  (match lcL2 pat tt it1 pat1 tt1 el vs vs1 xs (wipeE e vs) with
    | .ok ys e' => if ys.length ≤ LIM then .ok (.own false ys) (backE e' e vs) else .bad
    | _ => .bad) else .bad
theorem wipe_sub {σ : L2.St} {vs vs1 : List Nat} (h : ∀ i ∈ vs1, i ∈ vs) : wipe (wipe σ vs1) vs = wipe σ vs := by
  refine List.ext_getElem? fun i => ?_
  by_cases hi : i ∈ vs
  · rw [wipe_at2 hi, wipe_at2 hi, wipe_length]
  · rw [wipe_getN hi, wipe_getN hi, wipe_getN fun z => hi (h i z)]
theorem same_none (H : Hp) : Same (fun _ => none) H := fun _ _ e => by cases e
section
variable {it it1 : M (List D)} {pat pat1 : D → En → Option En} {tt tt1 : M Bool} {el : M Sl}
theorem rd_lc2 {K : PySem.W.Frag} {mg : Str → Option Value} {B : Bs} {W : WX} {vs vs1 : List Nat} {wi wi1 : TI} {g g1 : TG} {tb tb1 : TT} {te : TE} {σ : L2.St} {H : Hp} {Q : VK} (hsub : ∀ i ∈ vs1, i ∈ vs)
    (hwi : ∀ R, tI K mg B W it σ H R → wi σ H R) (hg : ∀ B v σ H Q, tG K B vs pat v σ H Q → g v σ H Q) (ht : ∀ B σ H Q, tBl K mg B W0 tt σ H Q → tb σ H Q)
    (hwi1 : ∀ B σ H R, tI2 K mg B W0 it1 σ H R → wi1 σ H R) (hg1 : ∀ B v σ H Q, tG K B vs1 pat1 v σ H Q → g1 v σ H Q) (ht1 : ∀ B σ H Q, tBl K mg B W0 tt1 σ H Q → tb1 σ H Q) (he : ∀ B σ H Q, tD K mg B W0 (vD el) σ H Q → te σ H Q)
    (h : tV K mg B W (vLc2 it pat tt it1 pat1 tt1 el vs vs1) σ H Q) : tLc2 wi g tb wi1 g1 tb1 te vs vs1 σ H Q := by
  obtain ⟨F, en, S, p⟩ := h
  refine hwi _ ⟨F, en, S, (Post.bind p).imp fun xs en1 F1 H1 S1 s1 q J wk Dd hD => ?_⟩
  obtain ⟨G, Y, wlk, hG, hY⟩ := wk
  split at q
  · rename_i hno
    have hF1 : F1 Dd = none := S1.sub.free hD
    have hKD : B.Kp Dd = none := S1.kp.free hD
    have hZD : ¬ B.Z Dd := fun z => S1.z Dd z hD
    cases hr : lcL2 pat tt it1 pat1 tt1 el vs vs1 xs (wipeE en1 vs) with
    | exc c fs e => rw [hr] at q; exact q.elim
    | bad => rw [hr] at q; exact q.elim
    | ok YS E' =>
      rw [hr] at q
      dsimp only at q
      split at q
      case isFalse => exact q.elim
      rename_i hlim
      let Pv : Nat → Hp → Prop := fun i H2 => ∃ F2 en2 acc accD ys, Sim K (B.more F1 Dd acc) (wipe σ vs) en2 F2 H2 ∧ DpAll K F2 acc accD ∧ lcL2 pat tt it1 pat1 tt1 el vs vs1 (xs.drop i) en2 = .ok ys E' ∧ accD ++ ys = YS
      have h0 : Pv 0 (upd H1 Dd (.lst [])) := by
        refine ⟨F1, wipeE en1 vs, [], [], YS, ?_, .nil, by rw [List.drop_zero]; exact hr, rfl⟩
        have S2 := (S1.gr (Gr.made (o := .lst []) S1.sub hD)).wiped vs
        refine S2.under (.refl _) (fun c o e => .inl e) upd_same fun i hi e => ?_
        obtain ⟨b, zs, hi⟩ := hi
        obtain ⟨c, ws, e1, e2, _⟩ := (S1.wiped vs).own i b zs hi
        rw [e] at e1; cases e1
        rw [hD] at e2; cases e2
      refine ⟨fun i m H2 => m = xs.length - i ∧ i ≤ xs.length ∧ Pv i H2, ⟨xs.length, by simp, Nat.zero_le _, h0⟩, ?_⟩
      rintro i m H2 ⟨rfl, hi, pv⟩
      have hGi : G H2 := by
        obtain ⟨F2, en2, acc, accD, ys, S2, _⟩ := pv
        exact hG F2 H2 S2.f0 S2.sub ((same_upd hKD).trans S2.kp)
      by_cases hlt : i < xs.length
      · refine .inr ⟨wlk.goes i H2 hlt hGi, Pv (i + 1), fun H' p' => ⟨xs.length - (i + 1), by omega, rfl, hlt, p'⟩, fun x H3 y => ?_⟩
        have y := wlk.yields i H2 x H3 hlt hGi y
        obtain ⟨F2, en2, acc, accD, ys, S2, ra, hl, hys⟩ := pv
        obtain ⟨F3, gr, d, hd, dv⟩ := hY i F2 H2 x H3 hlt S2.f0 S2.sub ((same_upd hKD).trans S2.kp) y
        have e1 : xs.drop i = d :: xs.drop (i + 1) := by
          rw [(List.drop_eq_getElem_cons hlt)]
          rw [List.getElem?_eq_getElem hlt] at hd
          rw [Option.some.inj hd]
        rw [e1] at hl
        unfold lcL2 at hl
        have S3 := S2.gr gr
        cases hpt : pat d en2 with
        | none => rw [hpt] at hl; cases hl
        | some e3 =>
          rw [hpt] at hl
          dsimp only at hl
          refine hg _ x _ _ _ ⟨F3, en2, d, S3, dv, e3, hpt, fun σ4 S4 w4 => ⟨w4.trans (wipe_wipe σ vs), ?_⟩⟩
          have w5 : wipe σ4 vs = wipe σ vs := w4.trans (wipe_wipe σ vs)
          refine ht (B.more F1 Dd acc) σ4 H3 _ ⟨F3, e3, S4, ?_⟩
          cases hb : tt e3 with
          | exc c fs e => rw [hb] at hl; cases hl
          | bad => rw [hb] at hl; cases hl
          | ok b e4 =>
            rw [hb] at hl
            simp only [noX_ok, R.bind_ok] at hl
            intro F5 H5 S5 s5
            cases b with
            | false =>
              rw [if_neg Bool.false_ne_true] at hl ⊢
              have S6 := S5.wiped vs
              rw [w5] at S6
              exact ⟨F5, wipeE e4 vs, acc, accD, ys, S6, dps_mono (gr.ff.trans s5) ra, hl, hys⟩
            | true =>
              rw [if_pos rfl] at hl ⊢
              refine hwi1 (B.more F1 Dd acc) σ4 H5 _ ⟨F5, e4, S5, ?_⟩
              cases hi1 : it1 e4 with
              | exc c fs e => rw [hi1] at hl; cases hl
              | bad => rw [hi1] at hl; cases hl
              | ok xs1 e5 =>
                rw [hi1] at hl
                simp only [noX_ok, R.bind_ok] at hl
                intro F6 H6 S6 s6 J1 wk1
                cases hin : lcL pat1 tt1 el vs1 xs1 (wipeE e5 vs1) with
                | exc c fs e => rw [hin] at hl; cases hl
                | bad => rw [hin] at hl; cases hl
                | ok ysI E1 =>
                  rw [hin] at hl
                  simp only [R.bind_ok] at hl
                  cases hrest : lcL2 pat tt it1 pat1 tt1 el vs vs1 (xs.drop (i + 1)) (wipeE E1 vs) with
                  | exc c fs e => rw [hrest] at hl; cases hl
                  | bad => rw [hrest] at hl; cases hl
                  | ok zs E2 =>
                    rw [hrest] at hl
                    simp only [R.bind_ok, R.ok.injEq] at hl
                    obtain ⟨rfl, rfl⟩ := hl
                    obtain ⟨G1, Y1, wlk1, hG1, hY1⟩ := wk1 fun _ => none
                    let Pv1 : Nat → Hp → Prop := fun j H7 => ∃ F7 en7 acc7 accD7 ys7, Sim K (B.more F1 Dd acc7) (wipe σ4 vs1) en7 F7 H7 ∧ Same F6 F7 ∧ DpAll K F7 acc7 accD7 ∧ lcL pat1 tt1 el vs1 (xs1.drop j) en7 = .ok ys7 E1 ∧ accD7 ++ (ys7 ++ zs) = YS
                    have h1 : Pv1 0 H6 := ⟨F6, wipeE e5 vs1, acc, accD, ysI, S6.wiped vs1, .refl _, dps_mono ((gr.ff.trans s5).trans s6) ra, by rw [List.drop_zero]; exact hin, hys⟩
                    refine ⟨fun j m H7 => m = xs1.length - j ∧ j ≤ xs1.length ∧ Pv1 j H7, ⟨xs1.length, by simp, Nat.zero_le _, h1⟩, ?_⟩
                    rintro j m H7 ⟨rfl, hj, pv1⟩
                    have hGj : G1 H7 := by
                      obtain ⟨F7, en7, acc7, accD7, ys7, S7, f7, _⟩ := pv1
                      exact hG1 F7 H7 f7 S7.sub (same_none _)
                    by_cases hlt1 : j < xs1.length
                    · refine .inr ⟨wlk1.goes j H7 hlt1 hGj, Pv1 (j + 1), fun H' p' => ⟨xs1.length - (j + 1), by omega, rfl, hlt1, p'⟩, fun x1 H8 y1 => ?_⟩
                      have y1 := wlk1.yields j H7 x1 H8 hlt1 hGj y1
                      obtain ⟨F7, en7, acc7, accD7, ys7, S7, f7, ra7, hl7, hys7⟩ := pv1
                      obtain ⟨F8, gr8, d8, hd8, dv8⟩ := hY1 j F7 H7 x1 H8 hlt1 f7 S7.sub (same_none _) y1
                      have e8 : xs1.drop j = d8 :: xs1.drop (j + 1) := by
                        rw [List.drop_eq_getElem_cons hlt1]
                        rw [List.getElem?_eq_getElem hlt1] at hd8
                        rw [Option.some.inj hd8]
                      rw [e8] at hl7
                      unfold lcL at hl7
                      have S8 := S7.gr gr8
                      cases hpt8 : pat1 d8 en7 with
                      | none => rw [hpt8] at hl7; cases hl7
                      | some e9 =>
                        rw [hpt8] at hl7
                        dsimp only at hl7
                        refine hg1 _ x1 _ _ _ ⟨F8, en7, d8, S8, dv8, e9, hpt8, fun σ9 S9 w9 => ⟨w9.trans (wipe_wipe σ4 vs1), ?_⟩⟩
                        have w10 : wipe σ9 vs1 = wipe σ4 vs1 := w9.trans (wipe_wipe σ4 vs1)
                        refine ht1 (B.more F1 Dd acc7) σ9 H8 _ ⟨F8, e9, S9, ?_⟩
                        cases hb8 : tt1 e9 with
                        | exc c fs e => rw [hb8] at hl7; cases hl7
                        | bad => rw [hb8] at hl7; cases hl7
                        | ok b8 e10 =>
                          rw [hb8] at hl7
                          simp only [noX_ok, R.bind_ok] at hl7
                          intro F10 H10 S10 s10
                          cases b8 with
                          | false =>
                            rw [if_neg Bool.false_ne_true] at hl7 ⊢
                            have S11 := S10.wiped vs1
                            rw [w10] at S11
                            exact ⟨F10, wipeE e10 vs1, acc7, accD7, ys7, S11, (f7.trans gr8.ff).trans s10, dps_mono (gr8.ff.trans s10) ra7, hl7, hys7⟩
                          | true =>
                            rw [if_pos rfl] at hl7 ⊢
                            refine he (B.more F1 Dd acc7) σ9 H10 _ ⟨F10, e10, S10, ?_⟩
                            cases hel : vD el e10 with
                            | exc c fs e => rw [hel] at hl7; cases hl7
                            | bad => rw [hel] at hl7; cases hl7
                            | ok y11 e11 =>
                              rw [hel] at hl7
                              simp only [noX_ok, R.bind_ok] at hl7
                              intro F11 H11 S11 s11 v11 r11
                              cases hrest1 : lcL pat1 tt1 el vs1 (xs1.drop (j + 1)) (wipeE e11 vs1) with
                              | exc c fs e => rw [hrest1] at hl7; cases hl7
                              | bad => rw [hrest1] at hl7; cases hl7
                              | ok ys12 E12 =>
                                rw [hrest1] at hl7
                                simp only [R.bind_ok, R.ok.injEq] at hl7
                                obtain ⟨rfl, rfl⟩ := hl7
                                obtain ⟨S12, hD12, hF12, hn12⟩ := S11.outer (h0 := S1.f0) (h0n := S1.new) hKD hF1
                                have hlen : acc7.length = accD7.length := dps_len ra7
                                have htot : accD7.length < YS.length := by
                                  rw [← hys7, List.length_append, List.length_append, List.length_cons]
                                  omega
                                refine ⟨acc7, hD12, by rw [hlen]; exact lim_lt (by omega), F11, wipeE e11 vs1, acc7 ++ [v11], accD7 ++ [y11], ys12, ?_, ((f7.trans gr8.ff).trans s10).trans s11, dps_app (dps_mono (gr8.ff.trans (s10.trans s11)) ra7) (dps_one r11), hrest1, by rw [List.append_assoc]; exact hys7⟩
                                have S13 : Sim K B σ9 e11 F11 (upd H11 Dd (.lst (acc7 ++ [v11]))) := by
                                  refine ⟨S12.len, same_upd2 S12.sub hF12, S12.f0, S12.new, same_upd2 S12.kp hKD, fun c z => ?_, S12.val, fun k b zs hk => ?_, S12.apart⟩
                                  · rw [upd_ne (fun (e : c = Dd) => hZD (by rw [← e]; exact z))]; exact S12.z c z
                                  · obtain ⟨c, ws, q1, q2, q3⟩ := S12.own k b zs hk
                                    refine ⟨c, ws, q1, ?_, q3⟩
                                    rw [upd_ne (fun (e : c = Dd) => hn12 k ⟨_, _, hk⟩ (by rw [← e]; exact q1))]
                                    exact q2
                                have S14 := S13.wiped vs1
                                rw [w10] at S14
                                refine S14.under S11.f0 (fun c o e => ?_) upd_same fun k hk e => ?_
                                · rcases S11.new c o e with z | z
                                  · exact .inl z
                                  · exact .inr ⟨fun w => z (.inl w), fun w => z (.inr w)⟩
                                · obtain ⟨b, zs, hk⟩ := hk
                                  have hkv : k ∉ vs1 := fun m => by
                                    have := wipeE_at m hk
                                    cases this
                                  rw [wipeE_get hkv] at hk
                                  rw [← w10, wipe_getN hkv] at e
                                  exact hn12 k ⟨_, _, hk⟩ e
                    · have ej : j = xs1.length := by omega
                      subst ej
                      refine .inl ⟨wlk1.stops H7 hGj, ?_⟩
                      obtain ⟨F7, en7, acc7, accD7, ys7, S7, f7, ra7, hl7, hys7⟩ := pv1
                      rw [List.drop_length] at hl7
                      unfold lcL at hl7
                      simp only [R.ok.injEq] at hl7
                      obtain ⟨rfl, rfl⟩ := hl7
                      have S8 := S7.wiped vs
                      rw [wipe_sub hsub, w5] at S8
                      exact ⟨F7, wipeE en7 vs, acc7, accD7, zs, S8, ra7, hrest, hys7⟩
      · have e :
                                                                                                                      i = xs.length := by omega
        subst e
        refine .inl ⟨wlk.stops H2 hGi, ?_⟩
        obtain ⟨F2, en2, acc, accD, ys, S2, ra, hl, hys⟩ := pv
        rw [List.drop_length] at hl
        unfold lcL2 at hl
        simp only [R.ok.injEq] at hl
        obtain ⟨rfl, rfl⟩ := hl
        rw [List.append_nil] at hys
        subst hys
        obtain ⟨S3, hD3, hF3, hn3⟩ := S2.outer (h0 := S1.f0) (h0n := S1.new) hKD hF1
        have S4 : Sim K B σ (backE en2 en1 vs) F2 H2 := S3.back S1.len (noOwn_ok hno) fun i hi d hd => by
          obtain ⟨v, q1, q2⟩ := S1.val i d hd
          exact ⟨v, q1, dp_mono S2.f0 q2⟩
        refine q F2 H2 S4 S2.f0 (.ref Dd) ⟨rfl, Dd, acc, rfl, hD3, hF3, ra, hKD, hZD, fun i hi e => ?_⟩
        obtain ⟨b, zs, hi⟩ := hi
        by_cases hiv : i ∈ vs
        · have z := backE_at hiv hi
          refine noOwn_ok hno i hiv ⟨b, zs, ?_⟩
          rw [List.getD_eq_getElem?_getD] at z
          cases q5 : en1[i]? with
          | none => rw [q5] at z; cases z
          | some t => rw [q5] at z; rw [z]; rfl
        · rw [backE_get hiv] at hi
          rw [← wipe_getN hiv] at e
          exact hn3 i ⟨_, _, hi⟩ e
  · exact q.elim
end

section
variable {X : Cx} {W : WX} {elt tg iter tg1 iter1 : Expr} {ifs ifs1 : List Expr} {scope : Scope} {own : List (Str × Nat)} {vs1 : List Nat} {pos : Pos} {it it1 : M (List D)} {pat pat1 : D → En → Option En} {tt tt1 : M Bool} {el : M Sl}
theorem piBlk {sh : Shared} {Hq : Hp} {ce : Env} {fp : List Addr} {tg e : Expr} {f : M (List D)} (h : VI2 (X.blk sh Hq scope ce fp) W0 tg e f) : PI (X.blk sh Hq scope ce fp) tg e (fun σ H R => ∃ B, tI2 X.K X.mg B W0 f σ H R) := ⟨fun pins s σ H R I ⟨B, q⟩ => (h B).run pins s σ H R I q⟩
theorem vs_setLc2 {i : Nat} {y : Str} {py spos : Pos} (own : List (Str × Nat)) (hc : X.calm = true) (hN : X.N.Nodup) (hsw : swapsWith (.ListComp elt [⟨tg, iter, ifs, 0⟩, ⟨tg1, iter1, ifs1, 0⟩] scope pos) (some (.Name y py)) spos.line X.env = pure true) (hyl : X.env.scope.names.lookup y = some .local)
    (ok : BlkOk X.N X.env.scope scope own) (hv : ∀ i ∈ vs1, i ∈ own.map (·.2)) (hi : VI X W tg iter it)
    (hg : ∀ (s : Shared) (H : Hp) (C : Addr) (cl : List (Str × Addr)) (fp : List Addr), VG (X.blk s H scope (compEnvC scope cl C X.env) fp) tg (own.map (·.2)) pat)
    (ht : ∀ (s : Shared) (H : Hp) (C : Addr) (cl : List (Str × Addr)) (fp : List Addr), VTs (X.blk s H scope (compEnvC scope cl C X.env) fp) W0 ifs tt)
    (hi1 : ∀ (s : Shared) (H : Hp) (C : Addr) (cl : List (Str × Addr)) (fp : List Addr), VI2 (X.blk s H scope (compEnvC scope cl C X.env) fp) W0 tg1 iter1 it1)
    (hg1 : ∀ (s : Shared) (H : Hp) (C : Addr) (cl : List (Str × Addr)) (fp : List Addr), VG (X.blk s H scope (compEnvC scope cl C X.env) fp) tg1 vs1 pat1)
    (ht1 : ∀ (s : Shared) (H : Hp) (C : Addr) (cl : List (Str × Addr)) (fp : List Addr), VTs (X.blk s H scope (compEnvC scope cl C X.env) fp) W0 ifs1 tt1)
    (he : ∀ (s : Shared) (H : Hp) (C : Addr) (cl : List (Str × Addr)) (fp : List Addr), VE (X.blk s H scope (compEnvC scope cl C X.env) fp) W0 elt el) (hy : X.N[i]? = some y := by rfl) (hs : ∀ x, foldedSetIterable iter X.env x = pure x := by intro _; rfl) (hs1 : ∀ env x, foldedSetIterable iter1 env x = pure x := by intro _ _; rfl) :
    VS X W (.Assign [.Name y py] (.ListComp elt [⟨tg, iter, ifs, 0⟩, ⟨tg1, iter1, ifs1, 0⟩] scope pos) spos) (sSet i (vLc2 it pat tt it1 pat1 tt1 el (own.map (·.2)) vs1)) := fun B =>
  psWk (ps_setLc2 hc hN hy hyl hsw (hi B) ok hv (fun s H C cl fp => pgBlk (hg s H C cl fp)) (fun s H C cl fp => ptsBlk (ht s H C cl fp)) (fun s H C cl fp => piBlk (hi1 s H C cl fp)) (fun s H C cl fp => pgBlk (hg1 s H C cl fp)) (fun s H C cl fp => ptsBlk (ht1 s H C cl fp)) (fun s H C cl fp => peBlk (he s H C cl fp)) hs hs1) fun Dn σ H ⟨F, en, S, p⟩ =>
    rd_lc2 hv (fun _ h => h) (fun B _ _ _ _ h => ⟨B, h⟩) (fun B _ _ _ h => ⟨B, h⟩) (fun B _ _ _ h => ⟨B, h⟩) (fun B _ _ _ _ h => ⟨B, h⟩) (fun B _ _ _ h => ⟨B, h⟩) (fun B _ _ _ h => ⟨B, h⟩) ⟨F, en, S, (PostS.bind p).imp fun r en1 F1 H1 S1 s1 q v rv => q _ F1 H1 (S1.store rv) (.refl _)⟩
end
/-! ### list(range(a, b)), tuple(range(n)) -/
section
variable {X : Cx} {W : WX} {a b : Expr} {p p2 pos pos2 : Pos} {f g : M Sl}
def vListR2 (f g : M Sl) : M Sl := fun en => (vD f en).bind fun c e => (vD g e).bind fun d e2 => match c, d with
  | .int m, .int n => if m.natAbs ≤ LIM ∧ n.natAbs ≤ LIM then .ok (.own false (rngD m (n - m).toNat)) e2 else .bad
  | _, _ => .bad
def vTupR (f : M Sl) : M Sl := fun en => (vD f en).bind fun d e => match d with
  | .int n => if n.natAbs ≤ LIM then .ok (.val (.tuple (rngD 0 n.toNat))) e else .bad
  | _ => .bad
end
end Mv

namespace Mv
open L2 PySem.Spec PySem PyProof.Rows

/-! ### comparisons of a name whose list stays its own -/
def lendO (o : Option Sl) (e : En) : R Sl := match o with
  | some (.val d) => if scal0 d = true then .ok (.val d) e else .bad
  | _ => .bad
@[simp] theorem lendO_bool (b : Bool) (e : En) : lendO (some (.val (.bool b))) e = .ok (.val (.bool b)) e := rfl
@[simp] theorem lendO_int (b : Int) (e : En) : lendO (some (.val (.int b))) e = .ok (.val (.int b)) e := rfl
/-- what a slot holds, to be looked at alone -/
def vLook {α : Type} (i : Nat) (e : En) (k : D → R α) : R α := match agOf e (.slot i) with
  | some x => k x
  | none => .bad
def vOpL (i : Nat) (o : D → D → Option Sl) (f : M Sl) : M Sl := fun en => vLook i en fun _ => (vD f en).bind fun y e => vLook i e fun x => lendO (o x y) e
def vOpR (o : D → D → Option Sl) (f : M Sl) (i : Nat) : M Sl := fun en => (vD f en).bind fun x e => vLook i e fun y => lendO (o x y) e
section
variable {X : Cx} {W : WX} {a b : Expr} {x : Str} {p pos : Pos} {f : M Sl} {op : CmpOp} {o : D → D → Option Sl}
end
end Mv

namespace Mv
open L2 PySem.Spec PySem PyProof.Rows

/-! ### f(bag, xs), both lists their caller's own: a def that returns one expression -/
structure GrB2 (b c : Addr) (F H F' H' : Hp) : Prop where
  ff : Same F F'
  fh : Same F' H'
  hh : ∀ a o, a ≠ b → a ≠ c → H a = some o → H' a = some o
  nw : ∀ a o, F' a = some o → F a = some o ∨ H a = none
def spB2 (K : PySem.W.Frag) (m : List D → List D → Option (D × List D × List D)) : Sp := fun vs H Q _ => ∃ (b c : Addr) (ws us : List V) (xs zs : List D) (F : Hp),
  vs = [.ref b, .ref c] ∧ b ≠ c ∧ H b = some (.lst ws) ∧ H c = some (.lst us) ∧ F b = none ∧ F c = none ∧ Same F H ∧ DpAll K F ws xs ∧ DpAll K F us zs ∧ match m xs zs with
  | some (d, ys, zs') => ∀ F' H' v ws' us', GrB2 b c F H F' H' → H' b = some (.lst ws') → DpAll K F' ws' ys → H' c = some (.lst us') → DpAll K F' us' zs' → Dp K F' v d → Q v H'
  | none => False
structure FnB2 (P : Program) (w : World) (K : PySem.W.Frag) (mg : Str → Option Value) (base : Heap) (x : Str) (k : Nat) (m : List D → List D → Option (D × List D × List D)) : Prop where
  ex : ∃ (f : Addr) (fd : FuncData) (ps : List Str), FnG P w K mg base k f fd ps (spB2 K m) ∧ mg x = some (.ref f) ∧ PySem.W.keepIn K (.ref f) = true ∧ Binds K fd ps []
theorem FnB2.mono {P : Program} {w : World} {K : PySem.W.Frag} {mg : Str → Option Value} {base : Heap} {x : Str} {j k : Nat} {m : List D → List D → Option (D × List D × List D)} (F : FnB2 P w K mg base x j m) (h : j ≤ k) : FnB2 P w K mg base x k m :=
  let ⟨f, fd, ps, h1, h2⟩ := F.ex
  ⟨f, fd, ps, h1.mono h, h2⟩
section
variable {K : PySem.W.Frag} {F H F' H' : Hp} {B : Bs} {σ : L2.St} {en : En}
end
section
variable {P : Program} {w : World} {K : PySem.W.Frag} {mg : Str → Option Value} {base : Heap} {x qual : Str} {st : Stmt} {f : Addr} {fd : FuncData} {N : List Str} {k : Nat} {p1 p2 : Str}
end
/-- f(bag, xs) -/
def vCallB2 (i j : Nat) (m : List D → List D → Option (D × List D × List D)) : M Sl := fun e => match (e[i]? : Option Sl), (e[j]? : Option Sl) with
  | some (.own b xs), some (.own b2 zs) => (match m xs zs with
    | some (d, ys, zs') => if i ≠ j then .ok (.val d) ((e.set i (.own b ys)).set j (.own b2 zs')) else .bad
    | none => .bad)
  | _, _ => .bad
section
variable {X : Cx} {W : WX} {x y z : Str} {p py pz pos : Pos} {k : Nat} {m : List D → List D → Option (D × List D × List D)}
end
end Mv

namespace Mv
open L2 PySem.Spec PySem PyProof.Rows
/-! ### tuple * 1, tuple * 0, () * n -/
theorem tuple_mul_same (l : Addr) (items : Array Value) (n : Nat) (sl : Array (Option Value)) (dd : Option Addr) (x : Int) (u : Tok) (c0 : (decide (x < -(2 ^ 63)) || decide (x ≥ 2 ^ 63)) = false) (c1 : (items.isEmpty || x == 1) = true) :
    Meets (Builtin.«tuple.__mul__» ⟨[.ref l, .int x u], []⟩) (fun _ R s =>
                                                                                                                  s.heap.get? l = some { cls := .type "tuple", dict := dd, data := .seq items n, slots := sl } ∧
      R (.ok (.ret (Value.ref l))) s) :=
  .of_wp fun prog w A R s h =>
                                                                                                                by
    obtain ⟨hp, g,
                                                                                                                  d, tk, os⟩ := s
    obtain ⟨hl, h⟩ := h
    have f1 := AutoSeq1.idx_int
    wp_walk using
                                                                                                                  wpAny_loadPart' hl
    repeat (first
      | (refine wpAny_ite_false (decide_eq_false (by rw [c0];
                                                                                                                    exact Bool.false_ne_true)) ?_; wp_walk using wpAny_loadPart' hl)
      | (refine wpAny_ite_true (decide_eq_true (by rw [c1])) ?_; wp_walk using wpAny_loadPart' hl))
    exact ⟨_, rfl, h⟩
theorem tuple_mul_none (l : Addr) (items : Array Value) (n : Nat) (sl : Array (Option Value)) (dd : Option Addr) (x : Int) (u : Tok) (c0 : (decide (x < -(2 ^ 63)) || decide (x ≥ 2 ^ 63)) = false) (c1 : (items.isEmpty || x == 1) = false) (c2 : (decide (x ≤ 0) || items.isEmpty) = true) :
    Meets (Builtin.«tuple.__mul__» ⟨[.ref l, .int x u], []⟩) (fun _ R s =>
                                                                                                                  s.heap.get? l = some { cls := .type "tuple", dict := dd, data := .seq items n, slots := sl } ∧
      R (.ok (.ret (Value.ref s.heap.objs.size))) { s with heap := s.heap.push { cls := Value.type "tuple", data := Data.seq #[] }, toks := s.toks }) :=
  .of_wp fun prog w A R s h =>
                                                                                                                by
    obtain ⟨hp, g,
                                                                                                                  d, tk, os⟩ := s
    obtain ⟨hl, h⟩ := h
    have f1 := AutoSeq1.idx_int
    wp_walk using
                                                                                                                  wpAny_loadPart' hl
    repeat (first
      | (refine wpAny_ite_false (decide_eq_false (by rw [c0];
                                                                                                                    exact Bool.false_ne_true)) ?_; wp_walk using wpAny_loadPart' hl)
      | (refine wpAny_ite_false (decide_eq_false (by rw [c1];
                                                                                                                    exact Bool.false_ne_true)) ?_; wp_walk using wpAny_loadPart' hl)
      | (refine wpAny_ite_true (decide_eq_true (by rw [c2])) ?_; wp_walk using wpAny_loadPart' hl))
    exact ⟨_, rfl, h⟩
def rRepT1 (K : PySem.W.Frag) : R2 := fun x y H Q => ∃ l k xs, x = .ref l ∧ y = .int k ∧ SqT K H l xs ∧ k.natAbs < 1000000 ∧ (((xs = [] ∨ k = 1) ∧ Q (.ref l) H) ∨ (xs ≠ [] ∧ k ≤ 0 ∧ ∀ p, H p = none → Q (.ref p) (upd H p (.tup []))))
section
variable {X : Cx}
theorem op_repT1 : OpR X (binaryOp .Mult) (rRepT1 X.K) := by
  intro pins s σ H x y
  intro v u Q I rx ry h
  obtain ⟨l, k, xs, rfl, rfl, hT, hk, h⟩ := h
  cases rx
  obtain ⟨t, rfl⟩ := ry
  obtain ⟨its, r, ⟨⟨cls, dd, data,
                                                                                                                sl⟩, ho, hc, n, hd⟩, hs⟩ := I.tuple hT
  simp only at hc hd
  subst hc hd
  have hle : its.length = xs.length :=
                                                                                                                r.length.symm
  have hi : its.toArray.isEmpty = decide (xs = []) := by
    cases its with
    | nil =>
      have : xs = [] := List.eq_nil_of_length_eq_zero hle.symm
      rw [this]; rfl
    | cons a b =>
      have : xs ≠ [] := fun e => by rw [e] at hle; cases hle
      rw [decide_eq_false this]; rfl
  have c0 : (decide (k < -(2 ^ 63)) || decide
                                                                                                                (k ≥ 2 ^ 63)) = false := by
    rw [decide_eq_false (by omega),
                                                                                                                  decide_eq_false (by omega)] <;> rfl
  refine wpAny_binaryOp_repeat_ref (T := "tuple") (U := "int") (by decide) ⟨_, ho, rfl⟩ (fun s' =>
                                                                                                                typeIs_int s' k t) noFill_tuple_mul F.fills_int_mul F.slot_int_rmul repeat_tuple F.slot_int_index.lookup
    (call_meets F.slot_int_rmul (typeIs_int s k t) F.entry_int_rmul
                                                                                                                  (F.args_int_rmul_2 _ _) (int_rmul_tuple k t l its.toArray n dd sl)
      ⟨ho, rfl, ⟨_, ho, rfl⟩, ?_⟩)
  rcases h with ⟨h1, q⟩ | ⟨h1, h2, q⟩
  · have c1 : (its.toArray.isEmpty || k == 1) = true := by
      rw [hi]
      rcases h1 with h1 | h1
      · rw [decide_eq_true h1]; rfl
      · rw [h1]; simp
    exact call_meets F.slot_tuple_mul ⟨_, ho, rfl⟩ F.entry_tuple_mul (F.args_tuple_mul_2 _ _) (tuple_mul_same l its.toArray n sl dd k t c0 c1) ⟨ho, ⟨.ref l, H, I, rfl, q⟩⟩
  · have c1 : (its.toArray.isEmpty || k == 1) = false := by
      rw [hi, decide_eq_false h1, Bool.false_or]
      exact beq_eq_false_iff_ne.mpr
                                                                                                                    (by omega)
    have c2 : (decide (k ≤ 0) || its.toArray.isEmpty) = true := by rw [decide_eq_true h2]; rfl
    refine call_meets F.slot_tuple_mul ⟨_, ho, rfl⟩ F.entry_tuple_mul (F.args_tuple_mul_2 _ _) (tuple_mul_none l its.toArray n sl dd k t c0 c1 c2) ⟨ho, ?_⟩
    refine ⟨.ref s.heap.objs.size, _, I.laid (t' := s.toks) (o := .tup []) (fun b ob q => Heap.get?_push_of_some _ q) (Nat.le_refl _) ?_, rfl, q _ (I.hok.fresh (Nat.le_refl _))⟩
    exact ⟨by rw [List.length_nil]; exact Nat.zero_le _, [], .nil, IsTup.new _ _⟩
def dMul2 : D → D → Option Sl
  | .tuple xs, .int k => if k.natAbs < 1000000 then (if xs = [] ∨ k = 1 then some (.val (.tuple xs)) else if k ≤ 0 then some (.val (.tuple [])) else dMul (.tuple xs) (.int k)) else none
  | x, y => dMul x y
theorem ov_mul2 : OV X (binaryOp .Mult) dMul2 := by
  have h2 := (ov_mul (X := X)).or (op_repT1 (X := X))
  intro pins s σ H x y v u Q I rx ry ⟨F, a, b, s0, ra, rb, k⟩
  refine h2 pins s σ H x y v u Q I rx ry ?_
  by_cases hab : ∃ xs n, a = .tuple xs ∧ b = .int n
  · obtain ⟨xs, n, rfl, rfl⟩ := hab
    unfold dMul2 at k
    dsimp only at k
    split at k
    · rename_i hn
      obtain ⟨a1, us, rfl, h1, r1⟩ := tup_of ra
      have hy := int_of rb
      subst hy
      split at k
      · rename_i hx
        refine .inr ⟨a1, n, us, rfl, rfl, sqT_mono s0 h1, hn, .inl ⟨hx.imp (fun e => ?_) id, k.val s0 ra⟩⟩
        subst e
        cases r1
        rfl
      · rename_i hx
        split at k
        · rename_i h0
          refine .inr ⟨a1, n, us, rfl, rfl, sqT_mono s0 h1, hn, .inr ⟨fun e => hx (.inl ?_), h0, k.tup s0 .nil⟩⟩
          subst e
          cases r1
          rfl
        · exact .inl ⟨F, _, _, s0, ra, rb, k⟩
    · exact k.elim
  · have e : dMul2 a b = dMul a b := by
      unfold dMul2
      split
      · exact absurd ⟨_, _, rfl, rfl⟩ hab
      · rfl
    rw [e] at k
    exact .inl ⟨F, a, b, s0, ra, rb, k⟩
end
end Mv

namespace Mv
open L2 PySem.Spec PySem PyProof.Rows

/-! ### a name's own list is moved -/
section
variable {X : Cx} {W : WX} {pos : Pos}
end
/-! ### own lists of tuples, lent to a def that is given the bag -/
section
variable {K : PySem.W.Frag} {F F' F2 : Hp}
end

section
variable {K : PySem.W.Frag} {mg : Str → Option Value} {B : Bs} {W : WX} {σ : L2.St} {en : En} {F H : Hp}
end
section
variable {X : Cx} {W : WX} {e : Expr} {es : List Expr} {x y : Str} {p py pos : Pos} {g : M (List Ag)} {k : Nat} {mb : List D → List D → Option (Out × List D)}
end
end Mv

namespace Mv
open L2 PySem.Spec PySem PyProof.Rows

/-! ### repr of data with long numbers (up to 12900 bits), where the limit of digits stands as it began -/
mutual
def tellB : D → Bool
  | .none | .bool _ |
                                                                                                                .str _ => true
  | .int i => decide (i.natAbs.log2 < 12900)
  | .list xs => tellBs xs
  | .tuple xs => tellBs xs
  | .dict _ => false
def tellBs : List D → Bool
  | [] => true
  | x :: xs => tellB x && tellBs xs
end
section
variable {prog :
                                                                                                              Program} {w : World} {h₀ : Heap}
end
def longOk (d : D) : Prop := tellB d = true ∧ d.shown.length ≤ LIM ∧ d.depth ≤ 100
instance (d : D) : Decidable (longOk d) := inferInstanceAs (Decidable (_ ∧ _ ∧ _))
section
variable {X : Cx}
end
/-! ### the law, called, where the limit of digits stands as it began -/
end Mv

namespace Mv
open L2 PySem.Spec PySem PyProof.Rows SlX

/-! ### instances with slots as values: e.f, e.m(..) -/
section
variable {X : Cx} {W : WX} {e o : Expr} {es : List Expr} {f m : Str} {pos apos : Pos} {fo : M Sl} {g : M (List D)}
/-! ### methods -/
/-- a def of the class of that name keeps a promise -/
structure FnM (P : Program) (w : World) (K : PySem.W.Frag) (mg : Str → Option Value) (base : Heap) (nm x : Str) (k : Nat) (m : List D → Option Out) : Prop where
  ex : ∃ (C f : Addr) (fd : FuncData) (ps : List Str), PySem.W.nsIn K mainGlobals nm = some (some (.ref C)) ∧ Meth K C x f ∧ FnG P w K mg base k f fd ps (spV K mg m) ∧ Binds K fd ps []
theorem FnM.mono {P : Program} {w : World} {K : PySem.W.Frag} {mg : Str → Option Value} {base : Heap} {nm x : Str} {j k : Nat} {m : List D → Option Out} (F : FnM P w K mg base nm x j m) (h : j ≤ k) : FnM P w K mg base nm x k m :=
  let ⟨C, f, fd, ps, h1, h2, h3, h4⟩ := F.ex
  ⟨C, f, fd, ps, h1, h2, h3.mono h, h4⟩
section
variable {k : Nat} {nm : Str} {mm : List D → Option Out} {pl : Sem Bool}
end
end
end Mv

namespace Mv
open L2 PySem.Spec PySem PyProof.Rows

/-! ### dicts of ints and texts: {k: v for ..}, d.get(k, x) -/
def KvR (K : PySem.W.Frag) (F : Hp) : List (Key × V) → List (Key × D) → Prop
  | [], [] => True
  | p :: ps, q :: qs => p.1 = q.1 ∧ Dp K F p.2 q.2 ∧ KvR K F ps qs
  | _, _ => False
def putG (l : List (Key × D)) (k : Key) (d : D) : List (Key × D) := if (l.any fun p => decide (p.1 = k)) = true then l.map (fun p => if p.1 = k then (p.1, d) else p) else l ++ [(k, d)]
def kvD (l : List (Key × D)) : List (D × D) := l.map fun p => (keyD p.1, p.2)
section
variable {K : PySem.W.Frag} {F F' : Hp}
theorem KvR.mono (e : Same F F') : ∀ {a : List (Key × V)} {b : List (Key × D)}, KvR K F a b → KvR K F' a b
  | [], [], _ => True.intro
  | _ :: _, _ :: _, h => ⟨h.1, dp_mono e h.2.1, KvR.mono e h.2.2⟩
  | [], _ :: _, h => h.elim
  | _ :: _, [], h => h.elim
theorem KvR.len : ∀ {a : List (Key × V)} {b : List (Key × D)}, KvR K F a b → a.length = b.length
  | [], [], _ => rfl
  | _ :: _, _ :: _, h => by rw [List.length_cons, List.length_cons, KvR.len h.2.2]
  | [], _ :: _, h => h.elim
  | _ :: _, [], h => h.elim
theorem KvR.any (k : Key) : ∀ {a : List (Key × V)} {b : List (Key × D)}, KvR K F a b → (a.any fun p => decide (p.1 = k)) = b.any fun p => decide (p.1 = k)
  | [], [], _ => rfl
  | _ :: _, _ :: _, h => by rw [List.any_cons, List.any_cons, KvR.any k h.2.2, h.1]
  | [], _ :: _, h => h.elim
  | _ :: _, [], h => h.elim
theorem KvR.app {v : V} {d : D} {k : Key} (r : Dp K F v d) : ∀ {a : List (Key × V)} {b : List (Key × D)}, KvR K F a b → KvR K F (a ++ [(k, v)]) (b ++ [(k, d)])
  | [], [], _ => ⟨rfl, r, True.intro⟩
  | _ :: _, _ :: _, h => ⟨h.1, h.2.1, KvR.app r h.2.2⟩
  | [], _ :: _, h => h.elim
  | _ :: _, [], h => h.elim
theorem KvR.map {v : V} {d : D} {k : Key} (r : Dp K F v d) : ∀ {a : List (Key × V)} {b : List (Key × D)}, KvR K F a b → KvR K F (a.map fun p => if p.1 = k then (p.1, v) else p) (b.map fun p => if p.1 = k then (p.1, d) else p)
  | [], [], _ => True.intro
  | p :: _, q :: _, h => by
    refine ⟨?_, ?_, KvR.map r h.2.2⟩
    · show (if p.1 = k then (p.1, v) else p).1 = (if q.1 = k then (q.1, d) else q).1
      rw [h.1]
      split
      · rfl
      · exact h.1
    · show Dp K F (if p.1 = k then (p.1, v) else p).2 (if q.1 = k then (q.1, d) else q).2
      rw [h.1]
      split
      · exact r
      · exact h.2.1
  | [], _ :: _, h => h.elim
  | _ :: _, [], h => h.elim
theorem KvR.put {v : V} {d : D} {k : Key} {a : List (Key × V)} {b : List (Key × D)} (h : KvR K F a b) (r : Dp K F v d) : KvR K F (putK a k v) (putG b k d) := by
  unfold putK putG
  rw [h.any k]
  split
  · exact h.map r
  · exact h.app r
theorem KvR.dp : ∀ {a : List (Key × V)} {b : List (Key × D)}, KvR K F a b → DpKv K F a (kvD b)
  | [], [], _ => .nil
  | (k, v) :: _, (k2, d) :: _, h => by
    obtain ⟨h1, h2, h3⟩ := h
    have h1 : k = k2 := h1
    subst h1
    exact .cons h2 (KvR.dp h3)
  | [], _ :: _, h => h.elim
  | _ :: _, [], h => h.elim
end
/-- a further thing that is to be kept -/
def Bs.moreO (B : Bs) (F : Hp) (a : Addr) (o : HO) : Bs := ⟨F, upd B.Kp a o, fun c => B.Z c ∨ c = a, B.io⟩
section
variable {K : PySem.W.Frag} {B : Bs} {σ : L2.St} {en : En} {F F0 H : Hp} {a : Addr} {o1 : HO}
theorem Sim.underO (S : Sim K B σ en F H) (h0 : Same F0 F) (h0n : ∀ c o, F c = some o → F0 c = some o ∨ (¬ B.Z c ∧ c ≠ a)) (h1 : H a = some o1) (h3 : ∀ i, isOwn en i → σ[i]? ≠ some (some (.ref a))) : Sim K (B.moreO F0 a o1) σ en F H := by
  refine ⟨S.len, S.sub, h0, fun c o e => ?_, fun c o e => ?_, fun c z e => ?_, S.val, fun i b xs e => ?_, S.apart⟩
  · rcases h0n c o e with q | ⟨q1, q2⟩
    · exact .inl q
    · exact .inr fun z => z.elim q1 q2
  · have e' : upd B.Kp a o1 c = some o := e
    by_cases hc : c = a
    · subst hc; rw [upd_same] at e'; cases e'; exact h1
    · rw [upd_ne hc] at e'; exact S.kp _ _ e'
  · rcases z with z | z
    · exact S.z c z e
    · rw [z, h1] at e; cases e
  · obtain ⟨c, vs, e1, e2, e3, e4, e5, e6, e7⟩ := S.own i b xs e
    have hca : c ≠ a := fun z => h3 i ⟨_, _, e⟩ (z ▸ e1)
    refine ⟨c, vs, e1, e2, e3, e4, ?_, fun hb z => ?_, e7⟩
    · show upd B.Kp a o1 c = none
      rw [upd_ne hca]; exact e5
    · exact z.elim (e6 hb) hca
theorem Sim.outerO (S : Sim K (B.moreO F0 a o1) σ en F H) (h0 : Same B.F F0) (h0n : ∀ c o, F0 c = some o → B.F c = some o ∨ ¬ B.Z c) (hk : B.Kp a = none) (h0a : F0 a = none) :
    Sim K B σ en F H ∧ H a = some o1 ∧ F a = none ∧ (∀ i, isOwn en i → σ[i]? ≠ some (some (.ref a))) := by
  have ow : ∀ (i : Nat) (b : Bool) (xs : List D), en[i]? = some (Sl.own b xs) → ∃ (c : Addr) (vs : List V), σ[i]? = some (some (V.ref c)) ∧ H c = some (.lst vs) ∧ F c = none ∧ DpAll K F vs xs ∧ (B.Kp c = none ∧ c ≠ a) ∧ (b = false → ¬ B.Z c) ∧ (b = true → B.io c) := fun i b xs e => by
    obtain ⟨c, vs, e1, e2, e3, e4, e5, e6, e7⟩ := S.own i b xs e
    have e5' : upd B.Kp a o1 c = none := e5
    have hca : c ≠ a := fun z => by rw [z, upd_same] at e5'; cases e5'
    rw [upd_ne hca] at e5'
    exact ⟨c, vs, e1, e2, e3, e4, ⟨e5', hca⟩, fun hb z => e6 hb (.inl z), e7⟩
  refine ⟨⟨S.len, S.sub, h0.trans S.f0, fun c o e => ?_, fun c o e => ?_, fun c z => S.z c (.inl z), S.val, fun i b xs e => ?_, S.apart⟩, ?_, ?_, fun i hi e => ?_⟩
  · rcases S.new c o e with q | q
    · exact h0n c o q
    · exact .inr fun z => q (.inl z)
  · exact S.kp c o (show upd B.Kp a o1 c = some o by rw [upd_ne (fun z => by rw [z, hk] at e; cases e)]; exact e)
  · obtain ⟨c, vs, e1, e2, e3, e4, e5, e6⟩ := ow i b xs e
    exact ⟨c, vs, e1, e2, e3, e4, e5.1, e6⟩
  · exact S.kp a _ (show upd B.Kp a o1 a = _ from upd_same)
  · cases q : F a with
    | none => rfl
    | some o =>
      rcases S.new a o q with z | z
      · have z' : F0 a = some o := z
        rw [h0a] at z'; cases z'
      · exact absurd (.inr rfl) z
  · obtain ⟨b, xs, hi⟩ := hi
    obtain ⟨c, vs, e1, _, _, _, e5, _⟩ := ow i b xs hi
    rw [e] at e1; cases e1
    exact e5.2 rfl
end
section
variable {X : Cx} {W : WX} {kx vx tg iter : Expr} {ifs : List Expr} {scope : Scope} {own : List (Str × Nat)} {pos : Pos} {it : M (List D)} {pat : D → En → Option En} {tt : M Bool} {ek ev : M Sl}
end
/-! ### d.get(k, x) -/
section
variable {X : Cx} {W : WX} {o e f : Expr} {apos cpos : Pos} {fo fk fx : M Sl}
/-! ### xs.index(x) -/
end
end Mv

namespace Mv
open L2 PySem.Spec PySem PyProof.Rows

/-! ### enumerate(xs, k) -/
section
variable {X : Cx} {W : WX} {a b : Expr} {g : M (List D)} {p pos tpos : Pos} {elts : List Expr} {kk : Nat}
end
end Mv

namespace Mv
open L2 PySem.Spec PySem PyProof.Rows

/-! ### blocks, with raw statements behind -/
section
variable {X : Cx} {W : WX} {st : Stmt} {sts rs : List Stmt} {g h : MS} {pos : Pos}
end
/-! ### a slot as a target -/
/-! ### rows[i] = [..]; rows[j][p] = v: the list that was stored is changed -/
section
variable {X : Cx} {W : WX}
end
end Mv

/-! Lp: linear programs. Lp1: sums, determinants. Plain Lean, no program in sight. -/
namespace Lp
/-! ### sums -/
def sm : Nat → (Nat → Rat) → Rat
  | 0, _ => 0
  | n + 1, f => sm n f + f n
theorem sm_congr {n : Nat} {f g : Nat → Rat} (h : ∀ k, k < n → f k = g k) : sm n f = sm n g := by
  induction n with
  | zero => rfl
  | succ n ih => rw [sm, sm, ih fun k hk => h k (by omega), h n (by omega)]
theorem sm_zero {n : Nat} {f : Nat → Rat} (h : ∀ k, k < n → f k = 0) : sm n f = 0 := by
  induction n with
  | zero => rfl
  | succ n ih => rw [sm, ih fun k hk => h k (by omega), h n (by omega)]; grind
theorem sm_add (n : Nat) (f g : Nat → Rat) : sm n (fun k => f k + g k) = sm n f + sm n g := by
  induction n with
  | zero => simp only [sm]; grind
  | succ n ih => rw [sm, sm, sm, ih]; grind
theorem sm_mul (n : Nat) (c : Rat) (f : Nat → Rat) : sm n (fun k => c * f k) = c * sm n f := by
  induction n with
  | zero => simp only [sm]; grind
  | succ n ih => rw [sm, sm, ih]; grind
theorem sm_neg (n : Nat) (f : Nat → Rat) : sm n (fun k => - f k) = - sm n f := by
  induction n with
  | zero => simp only [sm]; grind
  | succ n ih => rw [sm, sm, ih]; grind
theorem sm_sub (n : Nat) (f g : Nat → Rat) : sm n (fun k => f k - g k) = sm n f - sm n g := by
  induction n with
  | zero => simp only [sm]; grind
  | succ n ih => rw [sm, sm, sm, ih]; grind
theorem sm_swap (n m : Nat) (f : Nat → Nat → Rat) : sm n (fun i => sm m fun j => f i j) = sm m fun j => sm n fun i => f i j := by
  induction n with
  | zero => simp only [sm]; rw [sm_zero fun _ _ => rfl]
  | succ n ih => rw [sm, ih, ← sm_add]; rfl
theorem sm_shift (n : Nat) (f : Nat → Rat) : sm (n + 1) f = f 0 + sm n fun k => f (k + 1) := by
  induction n with
  | zero => simp only [sm]; grind
  | succ n ih => rw [sm, ih, sm]; grind
theorem sm_one {n p : Nat} {f : Nat → Rat} (hp : p < n) (h : ∀ k, k < n → k ≠ p → f k = 0) : sm n f = f p := by
  induction n with
  | zero => omega
  | succ n ih =>
    rw [sm]
    by_cases e : p = n
    · subst e
      rw [sm_zero fun k hk => h k (by omega) (by omega)]; grind
    · rw [ih (by omega) fun k hk => h k (by omega), h n (by omega) (Ne.symm e)]; grind
theorem sm_nonneg {n : Nat} {f : Nat → Rat} (h : ∀ k, k < n → 0 ≤ f k) : 0 ≤ sm n f := by
  induction n with
  | zero => exact Rat.le_refl
  | succ n ih =>
    rw [sm]
    have h1 := ih fun k hk => h k (by omega)
    have h2 := h n (by omega)
    grind
/-! ### determinants, along the first column -/
def sg : Nat → Rat
  | 0 => 1
  | n + 1 => - sg n
def skip (i r : Nat) : Nat := if r < i then r else r + 1
def mn (i : Nat) (A : Nat → Nat → Rat) : Nat → Nat → Rat := fun r c => A (skip i r) (c + 1)
def det : Nat → (Nat → Nat → Rat) → Rat
  | 0, _ => 1
  | n + 1, A => sm (n + 1) fun i => sg i * A i 0 * det n (mn i A)
def setc (A : Nat → Nat → Rat) (c : Nat) (u : Nat → Rat) : Nat → Nat → Rat := fun r k => if k = c then u r else A r k
theorem skip_lt {i r n : Nat} (hr : r < n) : skip i r < n + 1 := by unfold skip; split <;> omega
theorem det_congr : ∀ {n : Nat} {A B : Nat → Nat → Rat}, (∀ r c, r < n → c < n → A r c = B r c) → det n A = det n B
  | 0, _, _, _ => rfl
  | n + 1, A, B, h => by
    rw [det, det]
    refine sm_congr fun i hi => ?_
    rw [h i 0 hi (by omega), det_congr (A := mn i A) (B := mn i B) fun r c hr hc => h _ _ (skip_lt hr) (by omega)]
theorem mn_setc0 (i : Nat) (A : Nat → Nat → Rat) (u : Nat → Rat) : mn i (setc A 0 u) = mn i A := by
  funext r c
  unfold mn setc
  rw [if_neg (by omega)]
theorem mn_setcS (i c : Nat) (A : Nat → Nat → Rat) (u : Nat → Rat) : mn i (setc A (c + 1) u) = setc (mn i A) c fun r => u (skip i r) := by
  funext r k
  unfold mn setc
  by_cases h : k = c
  · rw [if_pos (by omega), if_pos h]
  · rw [if_neg (by omega), if_neg h]
/-- linear in each column -/
theorem det_lin : ∀ {n : Nat} (A : Nat → Nat → Rat) {c : Nat}, c < n → ∀ (a b : Rat) (u w : Nat → Rat), det n (setc A c fun r => a * u r + b * w r) = a * det n (setc A c u) + b * det n (setc A c w)
  | n + 1, A, 0, _, a, b, u, w => by
    rw [det, det, det, ← sm_mul, ← sm_mul, ← sm_add]
    refine sm_congr fun i _ => ?_
    rw [mn_setc0, mn_setc0, mn_setc0]
    show sg i * (a * u i + b * w i) * _ = a * (sg i * u i * _) + b * (sg i * w i * _)
    grind
  | n + 1, A, c + 1, h, a, b, u, w => by
    rw [det, det, det, ← sm_mul, ← sm_mul, ← sm_add]
    refine sm_congr fun i _ => ?_
    rw [mn_setcS, mn_setcS, mn_setcS, det_lin (mn i A) (by omega) a b (fun r => u (skip i r)) fun r => w (skip i r)]
    have e : ∀ x : Nat → Rat, setc A (c + 1) x i 0 = A i 0 := fun x => by unfold setc; rw [if_neg (by omega)]
    rw [e, e, e]
    grind
theorem det_zero {n : Nat} (A : Nat → Nat → Rat) {c : Nat} (hc : c < n) {u : Nat → Rat} (h : ∀ r, r < n → u r = 0) : det n (setc A c u) = 0 := by
  have h1 := det_lin A hc 0 0 u u
  have h2 : det n (setc A c fun r => 0 * u r + 0 * u r) = det n (setc A c u) := det_congr fun r k hr hk => by
    unfold setc
    split
    · rw [h r hr]; grind
    · rfl
  rw [h2] at h1
  grind
theorem skip_comm {i j r : Nat} (h : i ≤ j) : skip i (skip j r) = skip (j + 1) (skip i r) := by
  unfold skip
  by_cases h1 : r < i
  · rw [if_pos (show r < j by omega), if_pos h1, if_pos (show r < j + 1 by omega)]
  · rw [if_neg h1]
    by_cases h2 : r < j
    · rw [if_pos h2, if_neg h1, if_pos (by omega)]
    · rw [if_neg h2, if_neg (by omega), if_neg (by omega)]
/-- the first two columns alike -/
theorem det_two {n : Nat} {A : Nat → Nat → Rat} (h : ∀ r, r < n + 2 → A r 0 = A r 1) : det (n + 2) A = 0 := by
  -- the terms
  let F : Nat → Nat → Rat := fun i j => sg i * A i 0 * (sg j * A (skip i j) 1 * det n (mn j (mn i A)))
  have e : det (n + 2) A = sm (n + 2) fun i => sm (n + 1) fun j => F i j := by
    rw [det]
    refine sm_congr fun i _ => ?_
    rw [det, ← sm_mul]
    rfl
  have anti : ∀ i j, i ≤ j → j < n + 1 → F (j + 1) i = - F i j := fun i j hij hj => by
    have s1 : skip i j = j + 1 := by unfold skip; rw [if_neg (by omega)]
    have s2 : skip (j + 1) i = i := by unfold skip; rw [if_pos (by omega)]
    have m : mn i (mn (j + 1) A) = mn j (mn i A) := by
      funext r c
      unfold mn
      rw [skip_comm hij]
    show sg (j + 1) * A (j + 1) 0 * (sg i * A (skip (j + 1) i) 1 * det n (mn i (mn (j + 1) A))) = -(sg i * A i 0 * (sg j * A (skip i j) 1 * det n (mn j (mn i A))))
    rw [s1, s2, m, ← h i (by omega), ← h (j + 1) (by omega)]
    show (- sg j) * A (j + 1) 0 * (sg i * A i 0 * _) = _
    grind
  let P : Nat → Nat → Rat := fun i j => if i ≤ j then F i j else 0
  have split : (sm (n + 2) fun i => sm (n + 1) fun j => F i j) = (sm (n + 2) fun i => sm (n + 1) fun j => P i j) + sm (n + 2) fun i => sm (n + 1) fun j => if i ≤ j then 0 else F i j := by
    rw [← sm_add]
    refine sm_congr fun i _ => ?_
    rw [← sm_add]
    refine sm_congr fun j _ => ?_
    show F i j = (if i ≤ j then F i j else 0) + if i ≤ j then 0 else F i j
    split <;> grind
  have first : (sm (n + 2) fun i => sm (n + 1) fun j => P i j) = sm (n + 1) fun i => sm (n + 1) fun j => P i j := by
    rw [sm]
    have : (sm (n + 1) fun j => P (n + 1) j) = 0 := sm_zero fun j hj => if_neg (by omega)
    rw [this]
    grind
  have second : (sm (n + 2) fun i => sm (n + 1) fun j => if i ≤ j then 0 else F i j) = - sm (n + 1) fun i => sm (n + 1) fun j => P i j := by
    rw [sm_shift]
    have z : (sm (n + 1) fun j => if 0 ≤ j then (0 : Rat) else F 0 j) = 0 := sm_zero fun j _ => if_pos (Nat.zero_le j)
    rw [z, ← sm_neg, sm_swap]
    have : (sm (n + 1) fun j => sm (n + 1) fun i => if i + 1 ≤ j then (0 : Rat) else F (i + 1) j) = sm (n + 1) fun i => - sm (n + 1) fun j => P i j := by
      refine sm_congr fun j hj => ?_
      rw [← sm_neg]
      refine sm_congr fun i hi => ?_
      show (if i + 1 ≤ j then (0 : Rat) else F (i + 1) j) = - (if j ≤ i then F j i else 0)
      by_cases q : j ≤ i
      · rw [if_neg (by omega), if_pos q, anti j i q hi]
      · rw [if_pos (by omega), if_neg q]; grind
    rw [this]
    grind
  rw [e, split, first, second]
  grind
theorem setc_same (A : Nat → Nat → Rat) (c : Nat) : setc A c (fun r => A r c) = A := by
  funext r k
  unfold setc
  split
  · rename_i h; rw [h]
  · rfl
theorem setc_comm (A : Nat → Nat → Rat) {c d : Nat} (h : c ≠ d) (u w : Nat → Rat) : setc (setc A c u) d w = setc (setc A d w) c u := by
  funext r k
  unfold setc
  by_cases h1 : k = d
  · rw [if_pos h1, if_neg (by omega), if_pos h1]
  · rw [if_neg h1]
    by_cases h2 : k = c
    · rw [if_pos h2, if_pos h2]
    · rw [if_neg h2, if_neg h2, if_neg h1]
/-- two columns alike -/
theorem det_alike : ∀ {n : Nat} {A : Nat → Nat → Rat} {p q : Nat}, p < q → q < n → (∀ r, r < n → A r p = A r q) → det n A = 0
  | 0, _, _, _, _, h, _ => by omega
  | n + 1, A, p + 1, 0, h, _, _ => by omega
  | n + 1, A, p + 1, q + 1, hpq, hq, h => by
    rw [det]
    refine sm_zero fun i _ => ?_
    rw [det_alike (A := mn i A) (p := p) (q := q) (by omega) (by omega) fun r hr => h _ (skip_lt hr)]
    grind
  | n + 1, A, 0, 0, h, _, _ => by omega
  | n + 1, A, 0, 1, _, hq, h => by
    cases n with
    | zero => omega
    | succ n => exact det_two h
  | n + 1, A, 0, q + 2, _, hq, h => by
    cases n with
    | zero => omega
    | succ n =>
      -- the columns 1 and q + 2 change places: the sign changes, and then the first two are alike
      have swap : ∀ u w : Nat → Rat, det (n + 2) (setc (setc A 1 u) (q + 2) w) = - det (n + 2) (setc (setc A 1 w) (q + 2) u) := fun u w => by
        have zz : ∀ x : Nat → Rat, det (n + 2) (setc (setc A 1 x) (q + 2) x) = 0 := fun x => by
          rw [det]
          refine sm_zero fun i _ => ?_
          have : det (n + 1) (mn i (setc (setc A 1 x) (q + 2) x)) = 0 := det_alike (p := 0) (q := q + 1) (by omega) (by omega) fun r _ => by
            unfold mn setc
            rw [if_neg (show ¬ 0 + 1 = q + 2 by omega), if_pos (show 0 + 1 = 1 by omega), if_pos (show q + 1 + 1 = q + 2 by omega)]
          rw [this]
          grind
        have h0 := zz fun r => 1 * u r + 1 * w r
        rw [det_lin _ (show q + 2 < n + 2 by omega) 1 1 u w] at h0
        rw [setc_comm A (show 1 ≠ q + 2 by omega), setc_comm A (show 1 ≠ q + 2 by omega), det_lin _ (show 1 < n + 2 by omega) 1 1 u w, det_lin _ (show 1 < n + 2 by omega) 1 1 u w] at h0
        rw [← setc_comm A (show 1 ≠ q + 2 by omega), ← setc_comm A (show 1 ≠ q + 2 by omega), ← setc_comm A (show 1 ≠ q + 2 by omega), ← setc_comm A (show 1 ≠ q + 2 by omega), zz u, zz w] at h0
        grind
      have e : A = setc (setc A 1 fun r => A r 1) (q + 2) fun r => A r (q + 2) := by rw [setc_same, setc_same]
      rw [e, swap, det_two (A := setc (setc A 1 fun r => A r (q + 2)) (q + 2) fun r => A r 1) fun r hr => ?_]
      · grind
      · unfold setc
        rw [if_neg (by omega), if_neg (by omega), if_neg (by omega), if_pos rfl]
        exact h r hr
/-- Cramer: a column that is a sum of the columns -/
theorem cramer {n : Nat} {A : Nat → Nat → Rat} {y b : Nat → Rat} (h : ∀ r, r < n → (sm n fun c => y c * A r c) = b r) {p : Nat} (hp : p < n) : det n (setc A p b) = y p * det n A := by
  have lin : ∀ m, m ≤ n → det n (setc A p fun r => sm m fun c => y c * A r c) = sm m fun c => y c * det n (setc A p fun r => A r c) := fun m => by
    induction m with
    | zero => intro _; exact det_zero A hp fun r _ => rfl
    | succ m ih =>
      intro hm
      have h1 := det_lin A hp 1 (y m) (fun r => sm m fun c => y c * A r c) fun r => A r m
      have h2 : det n (setc A p fun r => 1 * (sm m fun c => y c * A r c) + y m * A r m) = det n (setc A p fun r => sm (m + 1) fun c => y c * A r c) := det_congr fun r k _ _ => by
        unfold setc
        split
        · show 1 * (sm m fun c => y c * A r c) + y m * A r m = (sm m fun c => y c * A r c) + y m * A r m
          grind
        · rfl
      rw [h2, ih (by omega)] at h1
      rw [h1, sm]
      grind
  have e : det n (setc A p b) = det n (setc A p fun r => sm n fun c => y c * A r c) := det_congr fun r k hr _ => by
    unfold setc
    split
    · exact (h r hr).symm
    · rfl
  rw [e, lin n (Nat.le_refl n), sm_one hp fun c hc hcp => ?_, setc_same]
  have : det n (setc A p fun r => A r c) = 0 := by
    rcases Nat.lt_or_gt_of_ne hcp with q | q
    · exact det_alike (p := c) (q := p) q hp fun r _ => by
        unfold setc
        rw [if_neg (by omega), if_pos rfl]
    · exact det_alike (p := p) (q := c) q hc fun r _ => by
        unfold setc
        rw [if_pos rfl, if_neg (by omega)]
  rw [this]
  grind
/-! ### whole numbers, sizes -/
def Wh (q : Rat) : Prop := ∃ z : Int, q = z
theorem Wh.add {a b : Rat} (ha : Wh a) (hb : Wh b) : Wh (a + b) := by
  obtain ⟨x, rfl⟩ := ha
  obtain ⟨y, rfl⟩ := hb
  exact ⟨x + y, by grind⟩
theorem Wh.mul {a b : Rat} (ha : Wh a) (hb : Wh b) : Wh (a * b) := by
  obtain ⟨x, rfl⟩ := ha
  obtain ⟨y, rfl⟩ := hb
  exact ⟨x * y, by grind⟩
theorem Wh.neg {a : Rat} (ha : Wh a) : Wh (-a) := by
  obtain ⟨x, rfl⟩ := ha
  exact ⟨-x, by grind⟩
theorem Wh.zero : Wh 0 := ⟨0, rfl⟩
theorem Wh.one : Wh 1 := ⟨1, rfl⟩
theorem Wh.sm {n : Nat} {f : Nat → Rat} (h : ∀ k, k < n → Wh (f k)) : Wh (Lp.sm n f) := by
  induction n with
  | zero => exact .zero
  | succ n ih => exact (ih fun k hk => h k (by omega)).add (h n (by omega))
theorem Wh.sg : ∀ n, Wh (Lp.sg n)
  | 0 => .one
  | n + 1 => (Wh.sg n).neg
theorem Wh.det : ∀ {n : Nat} {A : Nat → Nat → Rat}, (∀ r c, r < n → c < n → Wh (A r c)) → Wh (Lp.det n A)
  | 0, _, _ => .one
  | n + 1, A, h => Wh.sm fun i hi => ((Wh.sg i).mul (h i 0 hi (by omega))).mul (Wh.det fun r c hr hc => h _ _ (skip_lt hr) (by omega))
end Lp

namespace Lp
/-- at most so far from 0 -/
def At (b x : Rat) : Prop := -b ≤ x ∧ x ≤ b
theorem At.nn {b x : Rat} (h : At b x) : 0 ≤ b := by
  unfold At at h
  grind
theorem At.add {a b x y : Rat} (hx : At a x) (hy : At b y) : At (a + b) (x + y) := by
  unfold At at *
  grind
theorem At.neg {a x : Rat} (hx : At a x) : At a (-x) := by
  unfold At at *
  grind
theorem mul_nn {a b : Rat} (ha : 0 ≤ a) (hb : 0 ≤ b) : 0 ≤ a * b := Rat.mul_nonneg ha hb
theorem At.mul {a b x y : Rat} (hx : At a x) (hy : At b y) : At (a * b) (x * y) := by
  have ha := hx.nn
  have hb := hy.nn
  unfold At at *
  obtain ⟨x1, x2⟩ := hx
  obtain ⟨y1, y2⟩ := hy
  have p1 := mul_nn (show 0 ≤ a + x by grind) (show 0 ≤ b - y by grind)
  have p2 := mul_nn (show 0 ≤ a - x by grind) (show 0 ≤ b + y by grind)
  have p3 := mul_nn (show 0 ≤ a + x by grind) (show 0 ≤ b + y by grind)
  have p4 := mul_nn (show 0 ≤ a - x by grind) (show 0 ≤ b - y by grind)
  constructor
  · grind
  · grind
theorem At.sm {n : Nat} {f : Nat → Rat} {b : Rat} (h : ∀ k, k < n → At b (f k)) : At ((n : Rat) * b) (Lp.sm n f) := by
  induction n with
  | zero => unfold At; simp only [Lp.sm]; grind
  | succ n ih =>
    have h1 := (ih fun k hk => h k (by omega)).add (h n (by omega))
    have e : ((n : Rat) * b + b) = ((n + 1 : Nat) : Rat) * b := by
      have : ((n + 1 : Nat) : Rat) = (n : Rat) + 1 := by push_cast; rfl
      rw [this]; grind
    rw [← e]
    exact h1
def dB (M : Rat) : Nat → Rat
  | 0 => 1
  | n + 1 => ((n + 1 : Nat) : Rat) * (M * dB M n)
theorem At.sg {b x : Rat} (h : At b x) : ∀ n, At b (Lp.sg n * x)
  | 0 => by show At b (1 * x); rw [Rat.one_mul]; exact h
  | n + 1 => by
    have := (At.sg h n).neg
    show At b (- Lp.sg n * x)
    have e : - Lp.sg n * x = -(Lp.sg n * x) := by grind
    rw [e]
    exact this
theorem det_at {M : Rat} : ∀ {n : Nat} {A : Nat → Nat → Rat}, (∀ r c, r < n → c < n → At M (A r c)) → At (dB M n) (det n A)
  | 0, _, _ => by
    show At 1 1
    unfold At
    grind
  | n + 1, A, h => At.sm fun i hi => by
    have e : Lp.sg i * A i 0 * det n (mn i A) = Lp.sg i * (A i 0 * det n (mn i A)) := by grind
    rw [e]
    exact ((h i 0 hi (by omega)).mul (det_at fun r c hr hc => h _ _ (skip_lt hr) (by omega))).sg i
end Lp

namespace Lp
/-! ### a tableau: den * v (be i) = T i 0 + the sum of T i (k + 1) * v (ta k), for each row i -/
structure Tu where
  den : Rat
  be : Nat → Nat
  ta : Nat → Nat
  T : Nat → Nat → Rat
  G : Nat → Rat
def upd (f : Nat → Nat) (i x : Nat) : Nat → Nat := fun k => if k = i then x else f k
/-- the head of row i and the top p change places -/
def Tu.piv (t : Tu) (i p : Nat) : Tu where
  den := t.T i (p + 1)
  be := upd t.be i (t.ta p)
  ta := upd t.ta p (t.be i)
  T := fun r k => if r = i then (if k = p + 1 then t.den else - t.T i k) else if k = p + 1 then t.T r (p + 1) else (t.T r k * t.T i (p + 1) - t.T r (p + 1) * t.T i k) / t.den
  G := fun k => if k = p + 1 then t.G (p + 1) else (t.G k * t.T i (p + 1) - t.G (p + 1) * t.T i k) / t.den
def Tu.neg (t : Tu) : Tu where
  den := - t.den
  be := t.be
  ta := t.ta
  T := fun r k => - t.T r k
  G := fun k => - t.G k
/-- C r x: the factor of the variable x in the equation r; a r: its right side -/
structure Sys where
  m : Nat
  n : Nat
  C : Nat → Nat → Rat
  a : Nat → Rat
def Tu.bas (t : Tu) (S : Sys) : Nat → Nat → Rat := fun r i => S.C r (t.be i)
/-- how the columns hang together -/
structure Hang (S : Sys) (t : Tu) : Prop where
  d0 : t.den ≠ 0
  det : det S.m (t.bas S) = t.den ∨ det S.m (t.bas S) = - t.den
  top : ∀ r, r < S.m → ∀ k, k < S.n → (sm S.m fun i => t.T i (k + 1) * S.C r (t.be i)) = - t.den * S.C r (t.ta k)
  con : ∀ r, r < S.m → (sm S.m fun i => t.T i 0 * S.C r (t.be i)) = t.den * S.a r
theorem sm_split {m i : Nat} (hi : i < m) (f : Nat → Rat) : sm m f = (sm m fun k => if k = i then 0 else f k) + f i := by
  have h : sm m f = sm m fun k => (if k = i then 0 else f k) + (if k = i then f i else 0) := sm_congr fun k _ => by
    split
    · rename_i e; rw [e]; grind
    · grind
  rw [h, sm_add, sm_one (p := i) (f := fun k => if k = i then f i else 0) hi fun k _ hk => if_neg hk, if_pos rfl]
theorem Hang.neg {S : Sys} {t : Tu} (h : Hang S t) : Hang S t.neg := by
  refine ⟨fun z => h.d0 ?_, ?_, fun r hr k hk => ?_, fun r hr => ?_⟩
  · have z : - t.den = 0 := z
    grind
  · have e : t.neg.bas S = t.bas S := rfl
    have d : t.neg.den = - t.den := rfl
    rw [e, d]
    rcases h.det with q | q
    · exact .inr (by rw [q]; grind)
    · exact .inl q
  · have := h.top r hr k hk
    show (sm S.m fun i => - t.T i (k + 1) * S.C r (t.be i)) = - (- t.den) * S.C r (t.ta k)
    have e : (sm S.m fun i => - t.T i (k + 1) * S.C r (t.be i)) = sm S.m fun i => - (t.T i (k + 1) * S.C r (t.be i)) := sm_congr fun i _ => by grind
    rw [e, sm_neg, this]
    grind
  · have := h.con r hr
    show (sm S.m fun i => - t.T i 0 * S.C r (t.be i)) = - t.den * S.a r
    have e : (sm S.m fun i => - t.T i 0 * S.C r (t.be i)) = sm S.m fun i => - (t.T i 0 * S.C r (t.be i)) := sm_congr fun i _ => by grind
    rw [e, sm_neg, this]
    grind
theorem Hang.piv {S : Sys} {t : Tu} (h : Hang S t) {i p : Nat} (hi : i < S.m) (hp : p < S.n) (by0 : t.T i (p + 1) ≠ 0) : Hang S (t.piv i p) := by
  have d0 := h.d0
  -- a column of the new tableau that is put together of two old ones
  have mix : ∀ (k : Nat) (x : Rat) (r : Nat), r < S.m → k ≠ p + 1 → (sm S.m fun j => t.T j k * S.C r (t.be j)) = x →
      (sm S.m fun j => (t.piv i p).T j k * S.C r ((t.piv i p).be j)) = t.T i (p + 1) / t.den * x := fun k x r hr hk hx => by
    have hP := h.top r hr p hp
    rw [sm_split hi] at hx hP ⊢
    have e1 : (t.piv i p).T i k * S.C r ((t.piv i p).be i) = - t.T i k * S.C r (t.ta p) := by
      show (if i = i then (if k = p + 1 then t.den else - t.T i k) else _) * S.C r (upd t.be i (t.ta p) i) = _
      unfold upd
      rw [if_pos rfl, if_pos rfl, if_neg hk]
    have e2 : (sm S.m fun j => if j = i then 0 else (t.piv i p).T j k * S.C r ((t.piv i p).be j)) = t.T i (p + 1) / t.den * (sm S.m fun j => if j = i then 0 else t.T j k * S.C r (t.be j)) - t.T i k / t.den * (sm S.m fun j => if j = i then 0 else t.T j (p + 1) * S.C r (t.be j)) := by
      rw [← sm_mul, ← sm_mul, ← sm_sub]
      refine sm_congr fun j _ => ?_
      by_cases hj : j = i
      · rw [if_pos hj, if_pos hj, if_pos hj]; grind
      · rw [if_neg hj, if_neg hj, if_neg hj]
        show (if j = i then _ else if k = p + 1 then _ else (t.T j k * t.T i (p + 1) - t.T j (p + 1) * t.T i k) / t.den) * S.C r (upd t.be i (t.ta p) j) = _
        unfold upd
        rw [if_neg hj, if_neg hk, if_neg hj, Rat.div_def, Rat.div_def, Rat.div_def]
        grind
    rw [e1, e2]
    have x1 : (sm S.m fun j => if j = i then 0 else t.T j k * S.C r (t.be j)) = x - t.T i k * S.C r (t.be i) := by grind
    have x2 : (sm S.m fun j => if j = i then 0 else t.T j (p + 1) * S.C r (t.be j)) = - t.den * S.C r (t.ta p) - t.T i (p + 1) * S.C r (t.be i) := by grind
    rw [x1, x2]
    have q : t.den * t.den⁻¹ = 1 := Rat.mul_inv_cancel _ d0
    rw [Rat.div_def, Rat.div_def]
    grind
  refine ⟨by0, ?_, fun r hr k hk => ?_, fun r hr => ?_⟩
  · -- the determinant
    have c := cramer (n := S.m) (A := t.bas S) (y := fun j => - t.T j (p + 1) / t.den) (b := fun r => S.C r (t.ta p)) (fun r hr => by
      have hP := h.top r hr p hp
      have e : (sm S.m fun c => - t.T c (p + 1) / t.den * t.bas S r c) = (- 1 / t.den) * sm S.m fun c => t.T c (p + 1) * S.C r (t.be c) := by
        rw [← sm_mul]
        refine sm_congr fun c _ => ?_
        show - t.T c (p + 1) / t.den * S.C r (t.be c) = _
        rw [Rat.div_def, Rat.div_def]
        grind
      rw [e, hP, Rat.div_def]
      have q : t.den * t.den⁻¹ = 1 := Rat.mul_inv_cancel _ d0
      grind) hi
    have e : (t.piv i p).bas S = setc (t.bas S) i fun r => S.C r (t.ta p) := by
      funext r j
      show S.C r (upd t.be i (t.ta p) j) = if j = i then S.C r (t.ta p) else S.C r (t.be j)
      unfold upd
      split <;> rfl
    rw [e, c]
    show - t.T i (p + 1) / t.den * _ = t.T i (p + 1) ∨ - t.T i (p + 1) / t.den * _ = - t.T i (p + 1)
    have q : t.den * t.den⁻¹ = 1 := Rat.mul_inv_cancel _ d0
    rw [Rat.div_def]
    rcases h.det with z | z
    · exact .inr (by rw [z]; grind)
    · exact .inl (by rw [z]; grind)
  · by_cases hk2 : k = p
    · subst hk2
      have hP := h.top r hr k hk
      rw [sm_split hi] at hP ⊢
      have e1 : (t.piv i k).T i (k + 1) * S.C r ((t.piv i k).be i) = t.den * S.C r (t.ta k) := by
        show (if i = i then (if k + 1 = k + 1 then t.den else _) else _) * S.C r (upd t.be i (t.ta k) i) = _
        unfold upd
        rw [if_pos rfl, if_pos rfl, if_pos rfl]
      have e2 : (sm S.m fun j => if j = i then 0 else (t.piv i k).T j (k + 1) * S.C r ((t.piv i k).be j)) = sm S.m fun j => if j = i then 0 else t.T j (k + 1) * S.C r (t.be j) := sm_congr fun j _ => by
        by_cases hj : j = i
        · rw [if_pos hj, if_pos hj]
        · rw [if_neg hj, if_neg hj]
          show (if j = i then _ else if k + 1 = k + 1 then t.T j (k + 1) else _) * S.C r (upd t.be i (t.ta k) j) = _
          unfold upd
          rw [if_neg hj, if_pos rfl, if_neg hj]
      have e3 : (t.piv i k).ta k = t.be i := by
        show upd t.ta k (t.be i) k = _
        unfold upd
        rw [if_pos rfl]
      have e4 : (t.piv i k).den = t.T i (k + 1) := rfl
      rw [e1, e2, e3, e4]
      grind
    · rw [mix (k + 1) _ r hr (by omega) (h.top r hr k hk)]
      have e3 : (t.piv i p).ta k = t.ta k := by
        show upd t.ta p (t.be i) k = _
        unfold upd
        rw [if_neg hk2]
      have e4 : (t.piv i p).den = t.T i (p + 1) := rfl
      have q : t.den * t.den⁻¹ = 1 := Rat.mul_inv_cancel _ d0
      rw [e3, e4, Rat.div_def]
      grind
  · rw [mix 0 _ r hr (by omega) (h.con r hr)]
    have e4 : (t.piv i p).den = t.T i (p + 1) := rfl
    have q : t.den * t.den⁻¹ = 1 := Rat.mul_inv_cancel _ d0
    rw [e4, Rat.div_def]
    grind
/-- the numbers are determinants, so whole, and not too great -/
theorem Hang.whole {S : Sys} {t : Tu} (h : Hang S t) (hC : ∀ r x, r < S.m → Wh (S.C r x)) (ha : ∀ r, r < S.m → Wh (S.a r)) : Wh t.den ∧ ∀ i k, i < S.m → k < S.n + 1 → Wh (t.T i k) := by
  have d0 := h.d0
  have q : t.den * t.den⁻¹ = 1 := Rat.mul_inv_cancel _ d0
  have hd : Wh (Lp.det S.m (t.bas S)) := Wh.det fun r c hr _ => hC r _ hr
  refine ⟨?_, fun i k hi hk => ?_⟩
  · rcases h.det with z | z
    · rw [← z]; exact hd
    · have : t.den = - Lp.det S.m (t.bas S) := by grind
      rw [this]; exact hd.neg
  · -- by Cramer
    have go : ∀ (b : Nat → Rat) (y : Nat → Rat), (∀ r, r < S.m → Wh (b r)) → (∀ r, r < S.m → (sm S.m fun c => y c * t.bas S r c) = b r) → Wh (y i * t.den) := fun b y hb hy => by
      have c := cramer hy hi
      have w : Wh (Lp.det S.m (setc (t.bas S) i b)) := Wh.det fun r c hr _ => by
        unfold setc
        split
        · exact hb r hr
        · exact hC r _ hr
      rw [c] at w
      rcases h.det with z | z
      · rw [z] at w; exact w
      · rw [z] at w
        have e : y i * t.den = -(y i * - t.den) := by grind
        rw [e]; exact w.neg
    cases k with
    | zero =>
      have := go S.a (fun c => t.T c 0 / t.den) ha fun r hr => by
        have e : (sm S.m fun c => t.T c 0 / t.den * t.bas S r c) = (1 / t.den) * sm S.m fun c => t.T c 0 * S.C r (t.be c) := by
          rw [← sm_mul]
          refine sm_congr fun c _ => ?_
          show t.T c 0 / t.den * S.C r (t.be c) = _
          rw [Rat.div_def, Rat.div_def]
          grind
        rw [e, h.con r hr, Rat.div_def]
        grind
      have e : t.T i 0 / t.den * t.den = t.T i 0 := by rw [Rat.div_def]; grind
      rw [← e]
      exact this
    | succ k =>
      have := go (fun r => - S.C r (t.ta k)) (fun c => t.T c (k + 1) / t.den) (fun r hr => (hC r _ hr).neg) fun r hr => by
        have e : (sm S.m fun c => t.T c (k + 1) / t.den * t.bas S r c) = (1 / t.den) * sm S.m fun c => t.T c (k + 1) * S.C r (t.be c) := by
          rw [← sm_mul]
          refine sm_congr fun c _ => ?_
          show t.T c (k + 1) / t.den * S.C r (t.be c) = _
          rw [Rat.div_def, Rat.div_def]
          grind
        rw [e, h.top r hr k (by omega), Rat.div_def]
        grind
      have e : t.T i (k + 1) / t.den * t.den = t.T i (k + 1) := by rw [Rat.div_def]; grind
      rw [← e]
      exact this
theorem Hang.size {S : Sys} {t : Tu} {M : Rat} (h : Hang S t) (hC : ∀ r x, r < S.m → At M (S.C r x)) (ha : ∀ r, r < S.m → At M (S.a r)) : At (dB M S.m) t.den ∧ ∀ i k, i < S.m → k < S.n + 1 → At (dB M S.m) (t.T i k) := by
  have d0 := h.d0
  have q : t.den * t.den⁻¹ = 1 := Rat.mul_inv_cancel _ d0
  have hd : At (dB M S.m) (Lp.det S.m (t.bas S)) := det_at fun r c hr _ => hC r _ hr
  refine ⟨?_, fun i k hi hk => ?_⟩
  · rcases h.det with z | z
    · rw [← z]; exact hd
    · have : t.den = - Lp.det S.m (t.bas S) := by grind
      rw [this]; exact hd.neg
  · have go : ∀ (b : Nat → Rat) (y : Nat → Rat), (∀ r, r < S.m → At M (b r)) → (∀ r, r < S.m → (sm S.m fun c => y c * t.bas S r c) = b r) → At (dB M S.m) (y i * t.den) := fun b y hb hy => by
      have c := cramer hy hi
      have w : At (dB M S.m) (Lp.det S.m (setc (t.bas S) i b)) := det_at fun r c hr _ => by
        unfold setc
        split
        · exact hb r hr
        · exact hC r _ hr
      rw [c] at w
      rcases h.det with z | z
      · rw [z] at w; exact w
      · rw [z] at w
        have e : y i * t.den = -(y i * - t.den) := by grind
        rw [e]; exact w.neg
    cases k with
    | zero =>
      have := go S.a (fun c => t.T c 0 / t.den) ha fun r hr => by
        have e : (sm S.m fun c => t.T c 0 / t.den * t.bas S r c) = (1 / t.den) * sm S.m fun c => t.T c 0 * S.C r (t.be c) := by
          rw [← sm_mul]
          refine sm_congr fun c _ => ?_
          show t.T c 0 / t.den * S.C r (t.be c) = _
          rw [Rat.div_def, Rat.div_def]
          grind
        rw [e, h.con r hr, Rat.div_def]
        grind
      have e : t.T i 0 / t.den * t.den = t.T i 0 := by rw [Rat.div_def]; grind
      rw [← e]
      exact this
    | succ k =>
      have := go (fun r => - S.C r (t.ta k)) (fun c => t.T c (k + 1) / t.den) (fun r hr => (hC r _ hr).neg) fun r hr => by
        have e : (sm S.m fun c => t.T c (k + 1) / t.den * t.bas S r c) = (1 / t.den) * sm S.m fun c => t.T c (k + 1) * S.C r (t.be c) := by
          rw [← sm_mul]
          refine sm_congr fun c _ => ?_
          show t.T c (k + 1) / t.den * S.C r (t.be c) = _
          rw [Rat.div_def, Rat.div_def]
          grind
        rw [e, h.top r hr k (by omega), Rat.div_def]
        grind
      have e : t.T i (k + 1) / t.den * t.den = t.T i (k + 1) := by rw [Rat.div_def]; grind
      rw [← e]
      exact this
end Lp

namespace Lp
/-! ### what a tableau says -/
def Sol (S : Sys) (t : Tu) (v : Nat → Rat) : Prop := ∀ r, r < S.m → (sm S.m fun i => v (t.be i) * S.C r (t.be i)) + (sm S.n fun k => v (t.ta k) * S.C r (t.ta k)) = S.a r
def Says (S : Sys) (t : Tu) (v : Nat → Rat) : Prop := ∀ i, i < S.m → t.den * v (t.be i) = t.T i 0 + sm S.n fun k => t.T i (k + 1) * v (t.ta k)
theorem Hang.says {S : Sys} {t : Tu} (h : Hang S t) (v : Nat → Rat) : Sol S t v ↔ Says S t v := by
  have d0 := h.d0
  have q : t.den * t.den⁻¹ = 1 := Rat.mul_inv_cancel _ d0
  -- the tableau's rows, with the columns
  have key : ∀ r, r < S.m → (sm S.m fun i => (t.T i 0 + sm S.n fun k => t.T i (k + 1) * v (t.ta k)) * S.C r (t.be i)) = t.den * S.a r - t.den * sm S.n fun k => v (t.ta k) * S.C r (t.ta k) := fun r hr => by
    have e : (sm S.m fun i => (t.T i 0 + sm S.n fun k => t.T i (k + 1) * v (t.ta k)) * S.C r (t.be i)) = (sm S.m fun i => t.T i 0 * S.C r (t.be i)) + sm S.m fun i => sm S.n fun k => v (t.ta k) * (t.T i (k + 1) * S.C r (t.be i)) := by
      rw [← sm_add]
      refine sm_congr fun i _ => ?_
      have : (sm S.n fun k => v (t.ta k) * (t.T i (k + 1) * S.C r (t.be i))) = S.C r (t.be i) * sm S.n fun k => t.T i (k + 1) * v (t.ta k) := by
        rw [← sm_mul]
        exact sm_congr fun k _ => by grind
      rw [this]
      grind
    rw [e, h.con r hr, sm_swap]
    have e2 : (sm S.n fun k => sm S.m fun i => v (t.ta k) * (t.T i (k + 1) * S.C r (t.be i))) = - t.den * sm S.n fun k => v (t.ta k) * S.C r (t.ta k) := by
      rw [← sm_mul]
      refine sm_congr fun k hk => ?_
      rw [sm_mul, h.top r hr k hk]
      grind
    rw [e2]
    grind
  constructor
  · intro hs i hi
    -- the difference is 0, by Cramer
    have c := cramer (n := S.m) (A := t.bas S) (y := fun i => t.den * v (t.be i) - (t.T i 0 + sm S.n fun k => t.T i (k + 1) * v (t.ta k))) (b := fun _ => 0) (fun r hr => by
      have e : (sm S.m fun c => (t.den * v (t.be c) - (t.T c 0 + sm S.n fun k => t.T c (k + 1) * v (t.ta k))) * t.bas S r c) = t.den * (sm S.m fun i => v (t.be i) * S.C r (t.be i)) - sm S.m fun i => (t.T i 0 + sm S.n fun k => t.T i (k + 1) * v (t.ta k)) * S.C r (t.be i) := by
        rw [← sm_mul, ← sm_sub]
        refine sm_congr fun c _ => ?_
        show (t.den * v (t.be c) - _) * S.C r (t.be c) = _
        grind
      rw [e, key r hr]
      have := hs r hr
      grind) hi
    rw [det_zero _ hi fun _ _ => rfl] at c
    have hd : Lp.det S.m (t.bas S) ≠ 0 := by
      rcases h.det with z | z <;> rw [z] <;> grind
    have z : t.den * v (t.be i) - (t.T i 0 + sm S.n fun k => t.T i (k + 1) * v (t.ta k)) = 0 := by
      rcases Rat.mul_eq_zero.mp c.symm with z | z
      · exact z
      · exact absurd z hd
    grind
  · intro hs r hr
    have e : t.den * (sm S.m fun i => v (t.be i) * S.C r (t.be i)) = sm S.m fun i => (t.T i 0 + sm S.n fun k => t.T i (k + 1) * v (t.ta k)) * S.C r (t.be i) := by
      rw [← sm_mul]
      refine sm_congr fun i hi => ?_
      have := hs i hi
      grind
    rw [key r hr] at e
    have e2 : t.den * ((sm S.m fun i => v (t.be i) * S.C r (t.be i)) + (sm S.n fun k => v (t.ta k) * S.C r (t.ta k)) - S.a r) = 0 := by grind
    rcases Rat.mul_eq_zero.mp e2 with z | z
    · exact absurd z d0
    · grind
theorem sol_piv {S : Sys} {t : Tu} {i p : Nat} (hi : i < S.m) (hp : p < S.n) (v : Nat → Rat) : Sol S (t.piv i p) v ↔ Sol S t v := by
  have e : ∀ r, (sm S.m fun j => v ((t.piv i p).be j) * S.C r ((t.piv i p).be j)) + (sm S.n fun k => v ((t.piv i p).ta k) * S.C r ((t.piv i p).ta k)) = (sm S.m fun j => v (t.be j) * S.C r (t.be j)) + (sm S.n fun k => v (t.ta k) * S.C r (t.ta k)) := fun r => by
    rw [sm_split hi fun j => v ((t.piv i p).be j) * S.C r ((t.piv i p).be j), sm_split hp fun k => v ((t.piv i p).ta k) * S.C r ((t.piv i p).ta k), sm_split hi fun j => v (t.be j) * S.C r (t.be j), sm_split hp fun k => v (t.ta k) * S.C r (t.ta k)]
    have b1 : (t.piv i p).be i = t.ta p := by show upd t.be i (t.ta p) i = _; unfold upd; rw [if_pos rfl]
    have b2 : (t.piv i p).ta p = t.be i := by show upd t.ta p (t.be i) p = _; unfold upd; rw [if_pos rfl]
    have c1 : (sm S.m fun k => if k = i then 0 else v ((t.piv i p).be k) * S.C r ((t.piv i p).be k)) = sm S.m fun k => if k = i then 0 else v (t.be k) * S.C r (t.be k) := sm_congr fun k _ => by
      by_cases hk : k = i
      · rw [if_pos hk, if_pos hk]
      · rw [if_neg hk, if_neg hk]
        have : (t.piv i p).be k = t.be k := by show upd t.be i (t.ta p) k = _; unfold upd; rw [if_neg hk]
        rw [this]
    have c2 : (sm S.n fun k => if k = p then 0 else v ((t.piv i p).ta k) * S.C r ((t.piv i p).ta k)) = sm S.n fun k => if k = p then 0 else v (t.ta k) * S.C r (t.ta k) := sm_congr fun k _ => by
      by_cases hk : k = p
      · rw [if_pos hk, if_pos hk]
      · rw [if_neg hk, if_neg hk]
        have : (t.piv i p).ta k = t.ta k := by show upd t.ta p (t.be i) k = _; unfold upd; rw [if_neg hk]
        rw [this]
    rw [b1, b2, c1, c2]
    grind
  unfold Sol
  constructor
  · intro h r hr
    rw [← e r]
    exact h r hr
  · intro h r hr
    rw [e r]
    exact h r hr
theorem sol_neg {S : Sys} {t : Tu} (v : Nat → Rat) : Sol S t.neg v ↔ Sol S t v := Iff.rfl
/-! ### names -/
/-- the heads and the tops are unlike -/
structure Names (S : Sys) (t : Tu) : Prop where
  bb : ∀ i j, i < S.m → j < S.m → t.be i = t.be j → i = j
  tt : ∀ i j, i < S.n → j < S.n → t.ta i = t.ta j → i = j
  bt : ∀ i j, i < S.m → j < S.n → t.be i ≠ t.ta j
theorem Names.piv {S : Sys} {t : Tu} (h : Names S t) {i p : Nat} (hi : i < S.m) (hp : p < S.n) : Names S (t.piv i p) := by
  have b : ∀ j, (t.piv i p).be j = if j = i then t.ta p else t.be j := fun _ => rfl
  have a : ∀ j, (t.piv i p).ta j = if j = p then t.be i else t.ta j := fun _ => rfl
  refine ⟨fun j k hj hk e => ?_, fun j k hj hk e => ?_, fun j k hj hk e => ?_⟩
  · rw [b, b] at e
    by_cases h1 : j = i <;> by_cases h2 : k = i
    · omega
    · rw [if_pos h1, if_neg h2] at e; exact absurd e.symm (h.bt k p hk hp)
    · rw [if_neg h1, if_pos h2] at e; exact absurd e (h.bt j p hj hp)
    · rw [if_neg h1, if_neg h2] at e; exact h.bb j k hj hk e
  · rw [a, a] at e
    by_cases h1 : j = p <;> by_cases h2 : k = p
    · omega
    · rw [if_pos h1, if_neg h2] at e; exact absurd e (h.bt i k hi hk)
    · rw [if_neg h1, if_pos h2] at e; exact absurd e.symm (h.bt i j hi hj)
    · rw [if_neg h1, if_neg h2] at e; exact h.tt j k hj hk e
  · rw [b, a] at e
    by_cases h1 : j = i <;> by_cases h2 : k = p
    · rw [if_pos h1, if_pos h2] at e; exact absurd e.symm (h.bt i p hi hp)
    · rw [if_pos h1, if_neg h2] at e; exact h2 (h.tt p k hp hk e).symm
    · rw [if_neg h1, if_pos h2] at e; exact h1 (h.bb j i hj hi e)
    · rw [if_neg h1, if_neg h2] at e; exact h.bt j k hj hk e
theorem Names.neg {S : Sys} {t : Tu} (h : Names S t) : Names S t.neg := ⟨h.bb, h.tt, h.bt⟩
/-- the solution in which the tops are 0, but for one of them -/
def findB (S : Sys) (t : Tu) (x : Nat) : Nat → Option Nat
  | 0 => none
  | k + 1 => if t.be k = x then some k else findB S t x k
/-- v + y * d -/
def Tu.ray (S : Sys) (t : Tu) (p : Nat) (y : Rat) : Nat → Rat := fun x => match findB S t x S.m with
  | some i => (t.T i 0 + t.T i (p + 1) * y) / t.den
  | none => if x = t.ta p then y else 0
theorem findB_some {S : Sys} {t : Tu} (h : Names S t) {i : Nat} (hi : i < S.m) : findB S t (t.be i) S.m = some i := by
  have go : ∀ k, k ≤ S.m → i < k → findB S t (t.be i) k = some i := fun k => by
    induction k with
    | zero => intro _ h; omega
    | succ k ih =>
      intro hk hik
      rw [findB]
      by_cases e : t.be k = t.be i
      · rw [if_pos e, h.bb k i (by omega) hi e]
      · rw [if_neg e]
        refine ih (by omega) ?_
        rcases Nat.lt_or_ge i k with q | q
        · exact q
        · exact absurd (by rw [show k = i by omega]) e
  exact go S.m (Nat.le_refl _) hi
theorem findB_none {S : Sys} {t : Tu} {x : Nat} (h : ∀ i, i < S.m → t.be i ≠ x) : findB S t x S.m = none := by
  have go : ∀ k, k ≤ S.m → findB S t x k = none := fun k => by
    induction k with
    | zero => intro _; rfl
    | succ k ih =>
      intro hk
      rw [findB, if_neg (h k (by omega)), ih (by omega)]
  exact go S.m (Nat.le_refl _)
theorem ray_be {S : Sys} {t : Tu} (h : Names S t) {i p : Nat} {y : Rat} (hi : i < S.m) : t.ray S p y (t.be i) = (t.T i 0 + t.T i (p + 1) * y) / t.den := by
  unfold Tu.ray
  rw [findB_some h hi]
theorem ray_ta {S : Sys} {t : Tu} (h : Names S t) {j p : Nat} {y : Rat} (hj : j < S.n) (hp : p < S.n) : t.ray S p y (t.ta j) = if j = p then y else 0 := by
  unfold Tu.ray
  rw [findB_none fun i hi => h.bt i j hi hj]
  show (if t.ta j = t.ta p then y else 0) = _
  by_cases e : j = p
  · rw [if_pos e, if_pos (by rw [e])]
  · rw [if_neg e, if_neg fun z => e (h.tt j p hj hp z)]
theorem ray_says {S : Sys} {t : Tu} (h : Names S t) (d0 : t.den ≠ 0) {p : Nat} (hp : p < S.n) (y : Rat) : Says S t (t.ray S p y) := fun i hi => by
  have q : t.den * t.den⁻¹ = 1 := Rat.mul_inv_cancel _ d0
  rw [ray_be h hi, sm_one hp fun k hk hkp => ?_, ray_ta h hp hp, if_pos rfl, Rat.div_def]
  · grind
  · rw [ray_ta h hk hp, if_neg hkp]; grind
/-- the basic solution -/
def Tu.val (S : Sys) (t : Tu) : Nat → Rat := fun x => match findB S t x S.m with
  | some i => t.T i 0 / t.den
  | none => 0
theorem val_be {S : Sys} {t : Tu} (h : Names S t) {i : Nat} (hi : i < S.m) : t.val S (t.be i) = t.T i 0 / t.den := by
  unfold Tu.val
  rw [findB_some h hi]
theorem val_ta {S : Sys} {t : Tu} (h : Names S t) {j : Nat} (hj : j < S.n) : t.val S (t.ta j) = 0 := by
  unfold Tu.val
  rw [findB_none fun i hi => h.bt i j hi hj]
theorem val_no {S : Sys} {t : Tu} {x : Nat} (h : ∀ i, i < S.m → t.be i ≠ x) : t.val S x = 0 := by
  unfold Tu.val
  rw [findB_none h]
theorem val_says {S : Sys} {t : Tu} (h : Names S t) (d0 : t.den ≠ 0) : Says S t (t.val S) := fun i hi => by
  have q : t.den * t.den⁻¹ = 1 := Rat.mul_inv_cancel _ d0
  rw [val_be h hi, sm_zero fun k hk => ?_, Rat.div_def]
  · grind
  · rw [val_ta h hk]; grind
end Lp

namespace Lp
/-! ### Bland's rule ends -/
/-- a state of the walk: row 0 is the goal -/
structure St (S : Sys) (t : Tu) : Prop where
  h : Hang S t
  nm : Names S t
  pos : 0 < t.den
  feas : ∀ i, 1 ≤ i → i < S.m → 0 ≤ t.T i 0
  m1 : 1 ≤ S.m
/-- one step: the top at place p comes in, the head of row l goes out -/
structure Step (S : Sys) (t : Tu) (l p : Nat) : Prop where
  p1 : p < S.n
  fall : t.T 0 (p + 1) < 0
  least : ∀ j, j < S.n → t.T 0 (j + 1) < 0 → t.ta p ≤ t.ta j
  l0 : 1 ≤ l
  l1 : l < S.m
  by0 : t.T l (p + 1) < 0
  ratio : ∀ i, 1 ≤ i → i < S.m → t.T i (p + 1) < 0 → t.T l 0 * - t.T i (p + 1) ≤ t.T i 0 * - t.T l (p + 1)
  tie : ∀ i, 1 ≤ i → i < S.m → t.T i (p + 1) < 0 → t.T l 0 * - t.T i (p + 1) = t.T i 0 * - t.T l (p + 1) → t.be l ≤ t.be i
def Tu.next (t : Tu) (l p : Nat) : Tu := (t.piv l p).neg
theorem inv_pos {d : Rat} (h : 0 < d) : 0 < d⁻¹ := Rat.inv_pos.mpr h
section
variable {S : Sys} {t : Tu} {l p : Nat}
theorem next_T (i k : Nat) : (t.next l p).T i k = if i = l then (if k = p + 1 then - t.den else t.T l k) else if k = p + 1 then - t.T i (p + 1) else - ((t.T i k * t.T l (p + 1) - t.T i (p + 1) * t.T l k) / t.den) := by
  show - (if i = l then (if k = p + 1 then t.den else - t.T l k) else if k = p + 1 then t.T i (p + 1) else (t.T i k * t.T l (p + 1) - t.T i (p + 1) * t.T l k) / t.den) = _
  split
  · split
    · rfl
    · grind
  · split <;> rfl
theorem next_den : (t.next l p).den = - t.T l (p + 1) := rfl
theorem next_be (i : Nat) : (t.next l p).be i = if i = l then t.ta p else t.be i := rfl
theorem St.next (s : St S t) (st : Step S t l p) : St S (t.next l p) := by
  have d0 := s.pos
  have b0 := st.by0
  have ip := inv_pos d0
  refine ⟨(s.h.piv st.l1 st.p1 (by grind)).neg, (s.nm.piv st.l1 st.p1).neg, by rw [next_den]; grind, fun i i1 im => ?_, s.m1⟩
  rw [next_T]
  have fl := s.feas l st.l0 st.l1
  have fi := s.feas i i1 im
  by_cases e : i = l
  · rw [if_pos e, if_neg (by omega)]; exact fl
  · rw [if_neg e, if_neg (by omega), Rat.div_def]
    have key : 0 ≤ - (t.T i 0 * t.T l (p + 1) - t.T i (p + 1) * t.T l 0) := by
      by_cases q : t.T i (p + 1) < 0
      · have := st.ratio i i1 im q
        grind
      · have h1 := mul_nn fi (show 0 ≤ - t.T l (p + 1) by grind)
        have h2 := mul_nn (show 0 ≤ t.T i (p + 1) by grind) fl
        grind
    have := mul_nn key (Rat.le_of_lt ip)
    grind
theorem sol_next (st : Step S t l p) (v : Nat → Rat) : Sol S (t.next l p) v ↔ Sol S t v := (sol_neg v).trans (sol_piv st.l1 st.p1 v)
def zv (t : Tu) : Rat := t.T 0 0 / t.den
theorem zv_next (s : St S t) (st : Step S t l p) : zv (t.next l p) ≤ zv t ∧ (zv (t.next l p) = zv t → t.T l 0 = 0) := by
  have d0 := s.pos
  have b0 := st.by0
  have fl := s.feas l st.l0 st.l1
  have hf := st.fall
  have ip := inv_pos d0
  have ib := inv_pos (show 0 < - t.T l (p + 1) by grind)
  have q : t.den * t.den⁻¹ = 1 := Rat.mul_inv_cancel _ (by grind)
  have qb : - t.T l (p + 1) * (- t.T l (p + 1))⁻¹ = 1 := Rat.mul_inv_cancel _ (by grind)
  have e : zv t - zv (t.next l p) = (- t.T 0 (p + 1)) * t.T l 0 * (t.den⁻¹ * (- t.T l (p + 1))⁻¹) := by
    unfold zv
    rw [next_T, next_den, if_neg (by have := st.l0; omega), if_neg (by omega), Rat.div_def, Rat.div_def, Rat.div_def]
    generalize (- t.T l (p + 1))⁻¹ = B at *
    generalize t.den⁻¹ = D at *
    grind
  have pp : 0 < t.den⁻¹ * (- t.T l (p + 1))⁻¹ := Rat.mul_pos ip ib
  constructor
  · have := mul_nn (mul_nn (show 0 ≤ - t.T 0 (p + 1) by grind) fl) (Rat.le_of_lt pp)
    grind
  · intro z
    have z2 : (- t.T 0 (p + 1)) * t.T l 0 * (t.den⁻¹ * (- t.T l (p + 1))⁻¹) = 0 := by grind
    rcases Rat.mul_eq_zero.mp z2 with z3 | z3
    · rcases Rat.mul_eq_zero.mp z3 with z4 | z4
      · grind
      · exact z4
    · grind
/-- where nothing falls, nothing moves -/
theorem val_next (s : St S t) (st : Step S t l p) (z : t.T l 0 = 0) (x : Nat) : (t.next l p).val S x = t.val S x := by
  have nm' := (s.next st).nm
  have d0 := s.pos
  have q : t.den * t.den⁻¹ = 1 := Rat.mul_inv_cancel _ (by grind)
  have b0 := st.by0
  have qb : - t.T l (p + 1) * (- t.T l (p + 1))⁻¹ = 1 := Rat.mul_inv_cancel _ (by grind)
  by_cases h : ∃ i, i < S.m ∧ (t.next l p).be i = x
  · obtain ⟨i, hi, rfl⟩ := h
    rw [val_be nm' hi]
    by_cases e : i = l
    · have e1 : (t.next l p).be i = t.ta p := by rw [next_be, if_pos e]
      rw [e1, val_ta s.nm st.p1, next_T, if_pos e, if_neg (by omega), z, Rat.div_def]
      grind
    · have e1 : (t.next l p).be i = t.be i := by rw [next_be, if_neg e]
      rw [e1, val_be s.nm hi, next_T, if_neg e, if_neg (by omega), z, next_den, Rat.div_def, Rat.div_def, Rat.div_def]
      generalize (- t.T l (p + 1))⁻¹ = B at *
      generalize t.den⁻¹ = D at *
      grind
  · rw [val_no fun i hi e => h ⟨i, hi, e⟩]
    by_cases h2 : ∃ i, i < S.m ∧ t.be i = x
    · obtain ⟨i, hi, rfl⟩ := h2
      have e : i = l := by
        by_cases e : i = l
        · exact e
        · exact absurd ⟨i, hi, by rw [next_be, if_neg e]⟩ h
      rw [val_be s.nm hi, e, z, Rat.div_def]
      grind
    · rw [val_no fun i hi e => h2 ⟨i, hi, e⟩]
end
theorem step_down {P : Nat → Prop} {a b : Nat} (h : a ≤ b) (ha : P a) (hb : ¬ P b) : ∃ k, a ≤ k ∧ k < b ∧ P k ∧ ¬ P (k + 1) := by
  induction b with
  | zero => exact absurd (by rw [show (0 : Nat) = a by omega]; exact ha) hb
  | succ b ih =>
    by_cases e : a = b + 1
    · exact absurd (e ▸ ha) hb
    · by_cases q : P b
      · exact ⟨b, by omega, by omega, q, hb⟩
      · obtain ⟨k, h1, h2, h3⟩ := ih (by omega) q
        exact ⟨k, h1, by omega, h3⟩
theorem step_up {P : Nat → Prop} {a b : Nat} (h : a ≤ b) (ha : ¬ P a) (hb : P b) : ∃ k, a ≤ k ∧ k < b ∧ ¬ P k ∧ P (k + 1) := by
  obtain ⟨k, h1, h2, h3, h4⟩ := step_down (P := fun k => ¬ P k) h ha fun z => z hb
  exact ⟨k, h1, h2, h3, Classical.byContradiction h4⟩
theorem step_both {P : Nat → Prop} {a b x y : Nat} (hab : P a ↔ P b) (x1 : a ≤ x) (x2 : x ≤ b) (y1 : a ≤ y) (y2 : y ≤ b) (hx : P x) (hy : ¬ P y) : (∃ k, a ≤ k ∧ k < b ∧ ¬ P k ∧ P (k + 1)) ∧ ∃ k, a ≤ k ∧ k < b ∧ P k ∧ ¬ P (k + 1) := by
  by_cases h : P a
  · obtain ⟨k, a1, a2, a3⟩ := step_down y1 h hy
    obtain ⟨j, b1, b2, b3⟩ := step_up y2 hy (hab.mp h)
    exact ⟨⟨j, by omega, b2, b3⟩, ⟨k, a1, by omega, a3⟩⟩
  · obtain ⟨k, a1, a2, a3⟩ := step_up x1 h hx
    obtain ⟨j, b1, b2, b3⟩ := step_down x2 hx fun z => h (hab.mpr z)
    exact ⟨⟨k, a1, by omega, a3⟩, ⟨j, by omega, b2, b3⟩⟩
theorem greatest {P : Nat → Prop} {N x : Nat} (hx : P x) (hN : ∀ y, P y → y < N) : ∃ t, P t ∧ ∀ y, P y → y ≤ t := by
  have go : ∀ k, ∀ y, P y → N - y = k → ∃ t, P t ∧ ∀ y, P y → y ≤ t := fun k => by
    induction k using Nat.strongRecOn with
    | ind k ih =>
      intro y hy e
      by_cases h : ∀ z, P z → z ≤ y
      · exact ⟨y, hy, h⟩
      · obtain ⟨z, hz⟩ := Classical.not_forall.mp h
        obtain ⟨hz, hzy⟩ := Classical.not_imp.mp hz
        have := hN z hz
        exact ih (N - z) (by omega) z hz rfl
  exact go _ x hx rfl
/-- a run -/
structure Run (S : Sys) (st : Nat → Tu) (le en : Nat → Nat) (L : Nat) : Prop where
  s0 : St S (st 0)
  go : ∀ k, k < L → Step S (st k) (le k) (en k) ∧ st (k + 1) = (st k).next (le k) (en k)
section
variable {S : Sys} {st : Nat → Tu} {le en : Nat → Nat} {L : Nat}
theorem Run.stt (R : Run S st le en L) : ∀ k, k ≤ L → St S (st k)
  | 0, _ => R.s0
  | k + 1, h => by
    obtain ⟨a, b⟩ := R.go k (by omega)
    rw [b]
    exact (R.stt k (by omega)).next a
theorem Run.sol (R : Run S st le en L) (v : Nat → Rat) : ∀ k, k ≤ L → (Sol S (st k) v ↔ Sol S (st 0) v)
  | 0, _ => Iff.rfl
  | k + 1, h => by
    obtain ⟨a, b⟩ := R.go k (by omega)
    rw [b]
    exact (sol_next a v).trans (R.sol v k (by omega))
theorem Run.be0 (R : Run S st le en L) : ∀ k, k ≤ L → (st k).be 0 = (st 0).be 0
  | 0, _ => rfl
  | k + 1, h => by
    obtain ⟨a, b⟩ := R.go k (by omega)
    rw [b, next_be, if_neg (by have := a.l0; omega)]
    exact R.be0 k (by omega)
/-- no heads come again -/
theorem Run.fresh (R : Run S st le en L) {N : Nat} (hN : ∀ k, k ≤ L → (∀ i, i < S.m → (st k).be i < N) ∧ ∀ j, j < S.n → (st k).ta j < N) {a b : Nat} (hab : a < b) (hb : b ≤ L) (same : ∀ i, i < S.m → (st a).be i = (st b).be i) : False := by
  have sA := R.stt a (by omega)
  have sB := R.stt b hb
  have dA := sA.pos
  have dB := sB.pos
  have qA : (st a).den * (st a).den⁻¹ = 1 := Rat.mul_inv_cancel _ (by grind)
  -- the basic solutions are the same
  have sv : ∀ i, i < S.m → (st a).T i 0 / (st a).den = (st b).T i 0 / (st b).den := fun i hi => by
    have h1 : Says S (st b) ((st b).val S) := val_says sB.nm (by grind)
    have h2 : Sol S (st b) ((st b).val S) := (sB.h.says _).mpr h1
    have h3 : Sol S (st a) ((st b).val S) := (R.sol _ a (by omega)).mpr ((R.sol _ b hb).mp h2)
    have h4 := (sA.h.says _).mp h3 i hi
    have z : (sm S.n fun k => (st a).T i (k + 1) * (st b).val S ((st a).ta k)) = 0 := sm_zero fun k hk => by
      rw [val_no fun j hj e => sA.nm.bt j k hj hk ((same j hj).trans e)]
      grind
    rw [z] at h4
    have e := val_be sB.nm hi
    rw [← same i hi] at e
    rw [← e, Rat.div_def]
    grind
  have zs : zv (st a) = zv (st b) := sv 0 (by have := sA.m1; omega)
  -- the goal stays
  have mono : ∀ k, a ≤ k → k ≤ b → zv (st k) ≤ zv (st a) := fun k => by
    induction k with
    | zero => intro h1 _; rw [show a = 0 by omega]; exact Rat.le_refl
    | succ k ih =>
      intro h1 h2
      by_cases e : a = k + 1
      · rw [e]; exact Rat.le_refl
      · obtain ⟨x, y⟩ := R.go k (by omega)
        have := (zv_next (R.stt k (by omega)) x).1
        rw [← y] at this
        have := ih (by omega) (by omega)
        grind
  have mono2 : ∀ d k, k + d = b → a ≤ k → zv (st b) ≤ zv (st k) := fun d => by
    induction d with
    | zero => intro k h1 _; rw [show k = b by omega]; exact Rat.le_refl
    | succ d ih =>
      intro k h1 h2
      obtain ⟨x, y⟩ := R.go k (by omega)
      have h3 := (zv_next (R.stt k (by omega)) x).1
      rw [← y] at h3
      have h4 := ih (k + 1) (by omega) (by omega)
      grind
  have stay : ∀ k, a ≤ k → k ≤ b → zv (st k) = zv (st a) := fun k h1 h2 => by
    have := mono k h1 h2
    have := mono2 (b - k) k (by omega) h1
    grind
  have deg : ∀ k, a ≤ k → k < b → (st k).T (le k) 0 = 0 := fun k h1 h2 => by
    obtain ⟨x, y⟩ := R.go k (by omega)
    refine (zv_next (R.stt k (by omega)) x).2 ?_
    rw [← y, stay (k + 1) (by omega) (by omega), stay k h1 (by omega)]
  have vals : ∀ k, a ≤ k → k ≤ b → ∀ x, (st k).val S x = (st a).val S x := fun k => by
    induction k with
    | zero => intro h1 _ x; rw [show a = 0 by omega]
    | succ k ih =>
      intro h1 h2 x
      by_cases e : a = k + 1
      · rw [e]
      · obtain ⟨u, y⟩ := R.go k (by omega)
        rw [y, val_next (R.stt k (by omega)) u (deg k (by omega) (by omega)) x]
        exact ih (by omega) (by omega) x
  -- variables that come and go
  let bas : Nat → Nat → Prop := fun x k => ∃ i, i < S.m ∧ (st k).be i = x
  let non : Nat → Nat → Prop := fun x k => ∃ j, j < S.n ∧ (st k).ta j = x
  have bn : ∀ x k, a ≤ k → k ≤ b → non x k → ¬ bas x k := fun x k h1 h2 ⟨j, hj, e⟩ ⟨i, hi, e2⟩ => (R.stt k (by omega)).nm.bt i j hi hj (e2.trans e.symm)
  let Fk : Nat → Prop := fun x => (∃ k, a ≤ k ∧ k ≤ b ∧ bas x k) ∧ ∃ k, a ≤ k ∧ k ≤ b ∧ non x k
  have zero : ∀ x, Fk x → (st a).val S x = 0 := fun x ⟨_, k, h1, h2, j, hj, e⟩ => by
    rw [← vals k h1 h2 x, ← e, val_ta (R.stt k (by omega)).nm hj]
  have enter : ∀ k, a ≤ k → k < b → Fk ((st k).ta (en k)) := fun k h1 h2 => by
    obtain ⟨x, y⟩ := R.go k (by omega)
    refine ⟨⟨k + 1, by omega, by omega, le k, x.l1, ?_⟩, ⟨k, h1, by omega, en k, x.p1, rfl⟩⟩
    rw [y, next_be, if_pos rfl]
  obtain ⟨t, tF, tmax⟩ := greatest (P := Fk) (N := N) (enter a (Nat.le_refl a) hab) fun x ⟨_, k, h1, h2, j, hj, e⟩ => e ▸ (hN k (by omega)).2 j hj
  have tFk := tF
  obtain ⟨⟨kb, b1, b2, b3⟩, ⟨kn, n1, n2, n3⟩⟩ := tF
  have ends : bas t a ↔ bas t b := by
    constructor
    · rintro ⟨i, hi, e⟩
      exact ⟨i, hi, (same i hi).symm.trans e⟩
    · rintro ⟨i, hi, e⟩
      exact ⟨i, hi, (same i hi).trans e⟩
  obtain ⟨⟨k1, u1, u2, u3, u4⟩, ⟨k2, w1, w2, w3, w4⟩⟩ := step_both (P := bas t) ends b1 b2 n1 n2 b3 (bn t kn n1 n2 n3)
  -- t comes in at k1, goes out at k2
  obtain ⟨x1, y1⟩ := R.go k1 (by omega)
  obtain ⟨x2, y2⟩ := R.go k2 (by omega)
  have S1 := R.stt k1 (by omega)
  have S2 := R.stt k2 (by omega)
  have in1 : (st k1).ta (en k1) = t := by
    obtain ⟨i, hi, e⟩ := u4
    rw [y1, next_be] at e
    by_cases q : i = le k1
    · rw [if_pos q] at e; exact e
    · rw [if_neg q] at e; exact absurd ⟨i, hi, e⟩ u3
  have out2 : (st k2).be (le k2) = t := by
    obtain ⟨i, hi, e⟩ := w3
    by_cases q : i = le k2
    · rw [← q]; exact e
    · exact absurd ⟨i, hi, by rw [y2, next_be, if_neg q]; exact e⟩ w4
  have eF := enter k2 w1 w2
  generalize hA : st k1 = A at *
  generalize hB : st k2 = B at *
  generalize en k1 = p1 at *
  generalize en k2 = p2 at *
  generalize le k2 = l2 at *
  have pA := S1.pos
  have pB := S2.pos
  have qA' : A.den * A.den⁻¹ = 1 := Rat.mul_inv_cancel _ (by grind)
  have qB' : B.den * B.den⁻¹ = 1 := Rat.mul_inv_cancel _ (by grind)
  have iA := inv_pos pA
  have iB := inv_pos pB
  -- a ray of B, told by A
  have sy := ray_says S2.nm (show B.den ≠ 0 by grind) x2.p1 1
  have sol : Sol S B (B.ray S p2 1) := (S2.h.says _).mpr sy
  have solA : Sol S A (B.ray S p2 1) := by
    rw [← hA]
    refine (R.sol _ k1 (by omega)).mpr ?_
    rw [← hB] at sol
    rw [← hB]
    exact (R.sol _ k2 (by omega)).mp sol
  have tellA := (S1.h.says _).mp solA 0 (by have := S1.m1; omega)
  have be00 : A.be 0 = B.be 0 := by
    rw [← hA, ← hB, R.be0 k1 (by omega), R.be0 k2 (by omega)]
  have ray0 := ray_be (y := 1) (p := p2) S2.nm (show 0 < S.m by have := S1.m1; omega)
  rw [be00, ray0] at tellA
  have zAB : A.T 0 0 / A.den = B.T 0 0 / B.den := by
    have h1 := stay k1 u1 (by omega)
    have h2 := stay k2 w1 (by omega)
    unfold zv at h1 h2
    rw [hA] at h1
    rw [hB] at h2
    rw [h1, h2]
  -- the ray is the common solution and its way
  let dd : Nat → Rat := fun x => B.ray S p2 1 x - (st a).val S x
  have sumA : (sm S.n fun k => A.T 0 (k + 1) * dd (A.ta k)) < 0 := by
    have e : (sm S.n fun k => A.T 0 (k + 1) * dd (A.ta k)) = sm S.n fun k => A.T 0 (k + 1) * B.ray S p2 1 (A.ta k) := sm_congr fun k hk => by
      have : (st a).val S (A.ta k) = 0 := by
        rw [← vals k1 u1 (by omega), hA]
        exact val_ta S1.nm hk
      show A.T 0 (k + 1) * (B.ray S p2 1 (A.ta k) - (st a).val S (A.ta k)) = _
      rw [this]
      grind
    rw [e]
    have f := x2.fall
    rw [Rat.div_def] at tellA
    rw [Rat.div_def, Rat.div_def] at zAB
    have g : (sm S.n fun k => A.T 0 (k + 1) * B.ray S p2 1 (A.ta k)) = A.den * (B.T 0 (p2 + 1) * B.den⁻¹) := by grind
    rw [g]
    have h1 := Rat.mul_pos (Rat.mul_pos pA iB) (show 0 < - B.T 0 (p2 + 1) by grind)
    grind
  obtain ⟨j, hj, hneg⟩ : ∃ j, j < S.n ∧ A.T 0 (j + 1) * dd (A.ta j) < 0 := by
    refine Classical.byContradiction fun no => ?_
    have : 0 ≤ sm S.n fun k => A.T 0 (k + 1) * dd (A.ta k) := sm_nonneg fun k hk => by
      refine Classical.byContradiction fun z => no ⟨k, hk, by grind⟩
    grind
  generalize hr : A.ta j = r at *
  have rn : non r k1 := ⟨j, hj, by rw [hA]; exact hr⟩
  have small : r ≤ t → r ≠ t → 0 ≤ A.T 0 (j + 1) := fun h1 h2 => by
    refine Classical.byContradiction fun z => ?_
    have := x1.least j hj (by grind)
    rw [in1, hr] at this
    omega
  -- what r is in B
  by_cases hb : ∃ i, i < S.m ∧ B.be i = r
  · obtain ⟨i, hi, e⟩ := hb
    have i0 : i ≠ 0 := fun z => by
      subst z
      exact S1.nm.bt 0 j (by omega) hj (by rw [be00, e, hr])
    have rF : Fk r := ⟨⟨k2, w1, by omega, i, hi, by rw [hB]; exact e⟩, ⟨k1, u1, by omega, rn⟩⟩
    have rt := tmax r rF
    have dr : dd r = B.T i (p2 + 1) * B.den⁻¹ := by
      show B.ray S p2 1 r - (st a).val S r = _
      rw [← vals k2 w1 (by omega) r, hB, ← e, ray_be S2.nm hi, val_be S2.nm hi, Rat.div_def, Rat.div_def]
      grind
    by_cases q : r = t
    · -- it is t itself
      have il : i = l2 := S2.nm.bb i l2 hi x2.l1 (e.trans (q.trans out2.symm))
      have jp : j = p1 := S1.nm.tt j p1 hj x1.p1 (hr.trans (q.trans in1.symm))
      have f1 := x1.fall
      have f2 := x2.by0
      rw [dr, il, jp] at hneg
      have h1 := Rat.mul_pos (Rat.mul_pos (show 0 < - A.T 0 (p1 + 1) by grind) (show 0 < - B.T l2 (p2 + 1) by grind)) iB
      grind
    · have c := small rt q
      rw [dr] at hneg
      have b1 : B.T i (p2 + 1) < 0 := by
        refine Classical.byContradiction fun z => ?_
        have h1 := mul_nn (mul_nn c (show 0 ≤ B.T i (p2 + 1) by grind)) (Rat.le_of_lt iB)
        grind
      have v0 : B.T i 0 = 0 := by
        have h1 := zero r rF
        rw [← vals k2 w1 (by omega) r, hB, ← e, val_be S2.nm hi, Rat.div_def] at h1
        rcases Rat.mul_eq_zero.mp h1 with z | z
        · exact z
        · grind
      have l0 : B.T l2 0 = 0 := by
        have := deg k2 w1 w2
        rw [hB] at this
        have h1 := zero t tFk
        rw [← vals k2 w1 (by omega) t, hB, ← out2, val_be S2.nm x2.l1, Rat.div_def] at h1
        rcases Rat.mul_eq_zero.mp h1 with z | z
        · exact z
        · grind
      have := x2.tie i (by omega) hi b1 (by rw [v0, l0]; grind)
      rw [out2, e] at this
      omega
  · -- it is the one that comes in at k2, or nothing
    have dr : dd r = if r = B.ta p2 then 1 else 0 := by
      show B.ray S p2 1 r - (st a).val S r = _
      rw [← vals k2 w1 (by omega) r, hB, val_no fun i hi e => hb ⟨i, hi, e⟩]
      unfold Tu.ray
      rw [findB_none fun i hi e => hb ⟨i, hi, e⟩]
      show (if r = B.ta p2 then (1 : Rat) else 0) - 0 = _
      grind
    by_cases q : r = B.ta p2
    · rw [dr, if_pos q] at hneg
      have rF : Fk r := by rw [q]; exact eF
      have rt := tmax r rF
      have ne : r ≠ t := fun z => by
        have := S2.nm.bt l2 p2 x2.l1 x2.p1
        rw [out2, ← z, q] at this
        exact this rfl
      have := small rt ne
      grind
    · rw [dr, if_neg q] at hneg
      grind
end
end Lp

namespace Lp
/-! ### how long a run can be -/
end Lp

namespace Lp
/-! ### tableaus as lists of whole numbers -/
structure Tb where
  den : Int
  tops : List Int
  heads : List Int
  rows : List (List Int)
  goal : List Int
def gI (l : List Int) (k : Nat) : Int := l.getD k 0
def Tb.row (t : Tb) (i : Nat) : List Int := t.rows.getD i []
/-- a row in which the variable at a place is put in by the pivot row -/
def turnL (den : Int) (row pivot : List Int) (p : Nat) : List Int := (List.zipWith (fun x y => (x * gI pivot p - gI row p * y).fdiv den) row pivot).set p (gI row p)
def negL (l : List Int) : List Int := l.map fun x => - x
/-- the head of row i and the top q (at place q + 1) change places -/
def Tb.exch (t : Tb) (i q : Nat) : Tb :=
  let pivot := t.row i
  let rows := (t.rows.map fun row => turnL t.den row pivot (q + 1)).set i ((negL pivot).set (q + 1) t.den)
  let goal := turnL t.den t.goal pivot (q + 1)
  let heads := t.heads.set i (gI t.tops q)
  let tops := t.tops.set q (gI t.heads i)
  if gI pivot (q + 1) < 0 then ⟨- gI pivot (q + 1), tops, heads, rows.map negL, negL goal⟩ else ⟨gI pivot (q + 1), tops, heads, rows, goal⟩
structure Shape (m n : Nat) (t : Tb) : Prop where
  tops : t.tops.length = n
  heads : t.heads.length = m
  rows : t.rows.length = m
  row : ∀ r ∈ t.rows, r.length = n + 1
  goal : t.goal.length = n + 1
/-- row 0 is the goal, z its name -/
def Tb.tu (t : Tb) (z : Nat) : Tu where
  den := t.den
  be := fun i => match i with
    | 0 => z
    | i + 1 => (gI t.heads i).toNat
  ta := fun k => (gI t.tops k).toNat
  T := fun i k => match i with
    | 0 => (gI t.goal k : Rat)
    | i + 1 => (gI (t.row i) k : Rat)
  G := fun _ => 0
theorem gI_lt {l : List Int} {k : Nat} (h : k < l.length) : gI l k = l[k] := by
  unfold gI
  rw [List.getD_eq_getElem?_getD,
                                                                                                                List.getElem?_eq_getElem h]; rfl
theorem gI_ge {l : List Int} {k : Nat} (h : l.length ≤ k) : gI l k = 0 := by
  unfold gI
  rw [List.getD_eq_getElem?_getD, List.getElem?_eq_none h]; rfl
theorem gI_set {l : List Int} {i k : Nat} {x : Int} (h : i < l.length) : gI (l.set i x) k = if k = i then x else gI l k := by
  unfold gI
  rw [List.getD_eq_getElem?_getD, List.getD_eq_getElem?_getD, List.getElem?_set]
  by_cases e : i = k
  · rw [if_pos e, if_pos h, if_pos e.symm]; rfl
  · rw [if_neg e, if_neg fun z => e z.symm]
section
variable {m n : Nat} {t : Tb} (s : Shape m n t)
include s
end
end Lp

namespace Lp
/-! ### the top that comes in -/
def pairLe (a b : Int × Nat) : Bool := decide (a.1 < b.1 ∨ a.1 = b.1 ∧ a.2 ≤ b.2)
def Tb.falls (t : Tb) : List (Int × Nat) := ((List.range t.tops.length).filter fun q => decide (gI t.goal (q + 1) < 0)).map fun q => (gI t.tops q, q + 1)
/-- its place, from 1 on -/
def Tb.fall (t : Tb) : Option Nat := match t.falls.mergeSort pairLe with
  | [] => none
  | x :: _ => some x.2
/-! ### the head that goes out -/
/-- row i is 0 ahead of row b, or with it and its head is less -/
def Tb.better (t : Tb) (p i b : Nat) : Bool := decide (0 < gI (t.row i) 0 * gI (t.row b) p - gI (t.row b) 0 * gI (t.row i) p) || (decide (gI (t.row i) 0 * gI (t.row b) p - gI (t.row b) 0 * gI (t.row i) p = 0) && decide (gI t.heads i < gI t.heads b))
def Tb.leaveS (t : Tb) (p : Nat) (best : Option Nat) (i : Nat) : Option Nat := if gI (t.row i) p < 0 then some (if t.better p i (best.getD i) = true then i else best.getD i) else best
def Tb.leave (t : Tb) (p : Nat) : Option Nat := (List.range t.rows.length).foldl (t.leaveS p) none
/-! ### the goal is made least -/
def Tb.stepT (t : Tb) : Option Tb := t.fall.bind fun p => (t.leave p).map fun i => t.exch i (p - 1)
def Tb.lower : Nat → Tb → Option (Tb × Option Nat)
  | 0, _ => none
  | f + 1, t => match t.fall with
    | none => some (t, none)
    | some p => match t.leave p with
      | none => some (t, some p)
      | some i => Tb.lower f (t.exch i (p - 1))
/-- names are not below 0 -/
structure NN (t : Tb) : Prop where
  tops : ∀ k, 0 ≤ gI t.tops k
  heads : ∀ k, 0 ≤ gI t.heads k
theorem exch_names {t : Tb} {i q : Nat} : (t.exch i q).tops = t.tops.set q (gI t.heads i) ∧ (t.exch i q).heads = t.heads.set i (gI t.tops q) := by
  unfold Tb.exch
  by_cases h : gI (t.row i) (q + 1) < 0
  · rw [if_pos h]; exact ⟨rfl, rfl⟩
  · rw [if_neg h]; exact ⟨rfl, rfl⟩
theorem gI_set_any (l : List Int) (i k : Nat) (x : Int) : gI (l.set i x) k = x ∨ gI (l.set i x) k = gI l k := by
  by_cases h : i < l.length
  · rw [gI_set h]
    by_cases e : k = i
    · rw [if_pos e]; exact .inl rfl
    · rw [if_neg e]; exact .inr rfl
  · rw [List.set_eq_of_length_le (by omega)]; exact .inr rfl
theorem NN.exch {t : Tb} (h : NN t) (i q : Nat) : NN (t.exch i q) := by
  obtain ⟨e1, e2⟩ := exch_names (t := t) (i := i) (q := q)
  refine ⟨fun k => ?_, fun k => ?_⟩
  · rw [e1]
    rcases gI_set_any t.tops q k (gI t.heads i) with z | z <;> rw [z]
    · exact h.heads i
    · exact h.tops k
  · rw [e2]
    rcases gI_set_any t.heads i k (gI t.tops q) with z | z <;> rw [z]
    · exact h.tops q
    · exact h.heads k
end Lp

namespace Lp
structure Good (S : Sys) (z m n N : Nat) (t : Tb) : Prop where
  sh : Shape m n t
  nn : NN t
  st : St S (t.tu z)
  be : ∀ i, i < S.m → (t.tu z).be i < N
  ta : ∀ j, j < S.n → (t.tu z).ta j < N
section
variable {S : Sys} {z m n N : Nat} (hm : S.m = m + 1) (hn : S.n = n) (hC : ∀ r x, r < S.m → Wh (S.C r x)) (ha : ∀ r, r < S.m → Wh (S.a r))
include hm hn hC ha
def iter (t : Tb) : Nat → Tb
  | 0 => t
  | k + 1 => ((iter t k).stepT).getD (iter t k)
end
end Lp

namespace Lp
/-! ### names, each of them once -/
def ls (F : Nat → Rat) : List Int → Rat
  | [] => 0
  | x :: l => F x.toNat + ls F l
theorem ls_app (F : Nat → Rat) (a b : List Int) : ls F (a ++ b) = ls F a + ls F b := by
  induction a with
  | nil => simp only [List.nil_append, ls]; grind
  | cons x a ih => rw [List.cons_append, ls, ls, ih]; grind
theorem ls_perm {F : Nat → Rat} {a b : List Int} (h : a.Perm b) : ls F a = ls F b := by
  induction h with
  | nil => rfl
  | cons x _ ih => rw [ls, ls, ih]
  | swap x y l => simp only [ls]; grind
  | trans _ _ i1 i2 => exact i1.trans i2
theorem ls_sm (F : Nat → Rat) : ∀ (l : List Int), ls F l = sm l.length fun k => F (gI l k).toNat
  | [] => rfl
  | x :: l => by
    rw [ls, ls_sm F l, List.length_cons, sm_shift]
    rfl
theorem set_perm {a b : List Int} {i q : Nat} (hi : i < b.length) (hq : q < a.length) : ((a.set q (gI b i)) ++ (b.set i (gI a q))).Perm (a ++ b) := by
  have ea : a = a.take q ++ gI a q :: a.drop (q + 1) := by
    rw [gI_lt hq, ← List.drop_eq_getElem_cons hq, List.take_append_drop]
  have eb : b = b.take i ++ gI b i :: b.drop (i + 1) := by
    rw [gI_lt hi, ← List.drop_eq_getElem_cons hi, List.take_append_drop]
  rw [List.set_eq_take_append_cons_drop, if_pos hq, List.set_eq_take_append_cons_drop, if_pos hi]
  have e2 : (a ++ b).Perm ((a.take q ++ gI a q :: a.drop (q + 1)) ++ (b.take i ++ gI b i :: b.drop (i + 1))) := by rw [← ea, ← eb]
  refine List.Perm.trans ?_ e2.symm
  generalize a.take q = a1
  generalize a.drop (q + 1) = a2
  generalize b.take i = b1
  generalize b.drop (i + 1) = b2
  generalize gI a q = x
  generalize gI b i = y
  rw [List.append_assoc,
                                                                                                                List.append_assoc]
  refine List.Perm.append_left a1 ?_
  rw [List.cons_append, List.cons_append, ← List.append_assoc, ← List.append_assoc]
  refine (List.Perm.cons y List.perm_middle).trans ((List.Perm.swap x y _).trans (List.Perm.cons x List.perm_middle.symm))
/-- the names of a tableau -/
structure Nm (base : List Int) (t : Tb) : Prop where
  p : (t.tops ++ t.heads).Perm base
  nd : base.Nodup
  nn : ∀ x ∈ base, 0 ≤ x
theorem Nm.exch {base : List Int} {t : Tb} {m n : Nat} (h : Nm base t) (s : Shape m n t) {i q : Nat} (hi : i < m) (hq : q < n) : Nm base (t.exch i q) := by
  obtain ⟨e1, e2⟩ := exch_names (t := t) (i := i) (q := q)
  refine ⟨?_, h.nd, h.nn⟩
  rw [e1, e2]
  exact (set_perm (by rw [s.heads]; exact hi) (by rw [s.tops]; exact hq)).trans h.p
section
variable {base : List Int} {t : Tb} {m n : Nat} (h : Nm base t) (s : Shape m n t)
include h s
theorem Nm.top_mem {k : Nat} (hk : k < n) : gI t.tops k ∈ base := by
  rw [gI_lt (by rw [s.tops]; exact hk)]
  exact h.p.mem_iff.mp (List.mem_append_left _ (List.getElem_mem _))
theorem Nm.head_mem {k : Nat} (hk : k < m) : gI t.heads k ∈ base := by
  rw [gI_lt (by rw [s.heads]; exact hk)]
  exact h.p.mem_iff.mp (List.mem_append_right _ (List.getElem_mem _))
theorem Nm.nnt : NN t := by
  refine ⟨fun k => ?_, fun k => ?_⟩
  · by_cases hk : k < n
    · exact h.nn _ (h.top_mem s hk)
    · rw [gI_ge (by rw [s.tops]; omega)]; exact Int.le_refl _
  · by_cases hk : k < m
    · exact h.nn _ (h.head_mem s hk)
    · rw [gI_ge (by rw [s.heads]; omega)]; exact Int.le_refl _
theorem Nm.nd' : (t.tops ++ t.heads).Nodup := h.p.nodup_iff.mpr h.nd
theorem Nm.tt {j k : Nat} (hj : j < n) (hk : k < n) (e : gI t.tops j = gI t.tops k) : j = k := by
  have nd := (List.nodup_append.mp (h.nd' s)).1
  rw [gI_lt (by rw [s.tops]; exact hj), gI_lt (by rw [s.tops]; exact hk)] at e
  exact (List.getElem_inj nd).mp e
theorem Nm.bb {j k : Nat} (hj : j < m) (hk : k < m) (e : gI t.heads j = gI t.heads k) : j = k := by
  have nd := (List.nodup_append.mp (h.nd' s)).2.1
  rw [gI_lt (by rw [s.heads]; exact hj), gI_lt (by rw [s.heads]; exact hk)] at e
  exact (List.getElem_inj nd).mp e
theorem Nm.bt {j k : Nat} (hj : j < m) (hk : k < n) : gI t.heads j ≠ gI t.tops k := by
  have nd := (List.nodup_append.mp (h.nd' s)).2.2
  rw [gI_lt (by rw [s.heads]; exact hj), gI_lt (by rw [s.tops]; exact hk)]
  exact fun e => nd _ (List.getElem_mem _) _ (List.getElem_mem _) e.symm
/-- with a name z of no other one -/
theorem Nm.names {S : Sys} {z : Nat} (hm : S.m = m + 1) (hn : S.n = n) (hz : ∀ x ∈ base, x.toNat ≠ z) : Names S (t.tu z) := by
  have nn := h.nnt s
  refine ⟨fun i j hi hj e => ?_, fun i j hi hj e => ?_, fun i j hi hj e => ?_⟩
  · cases i with
    | zero => cases j with
      | zero => rfl
      | succ j => exact absurd e.symm (hz _ (h.head_mem s (show j < m by omega)))
    | succ i => cases j with
      | zero => exact absurd e (hz _ (h.head_mem s (show i < m by omega)))
      | succ j =>
        have e : (gI t.heads i).toNat = (gI t.heads j).toNat := e
        have := nn.heads i
        have := nn.heads j
        rw [h.bb s (show i < m by omega) (show j < m by omega) (by omega)]
  · have e : (gI t.tops i).toNat = (gI t.tops j).toNat := e
    have := nn.tops i
    have := nn.tops j
    exact h.tt s (by omega) (by omega) (by omega)
  · cases i with
    | zero => exact absurd e.symm (hz _ (h.top_mem s (show j < n by omega)))
    | succ i =>
      have e : (gI t.heads i).toNat = (gI t.tops j).toNat := e
      have := nn.heads i
      have := nn.tops j
      exact h.bt s (show i < m by omega) (show j < n by omega) (by omega)
/-- a sum over all names -/
theorem Nm.sum (F : Nat → Rat) : (sm m fun i => F (gI t.heads i).toNat) + (sm n fun k => F (gI t.tops k).toNat) = ls F base := by
  rw [← ls_perm h.p, ls_app, ls_sm, ls_sm, s.tops, s.heads]
  grind
end
end Lp

namespace Lp
/-! ### the system of a program: m rows over n variables -/
structure Dat where
  m : Nat
  n : Nat
  A : List (List Int)
structure Dat.Ok (D : Dat) : Prop where
  len : D.A.length = D.m
  row : ∀ r ∈ D.A, r.length = D.n + 1
def Dat.at (D : Dat) (i x : Nat) : Rat := (gI (D.A.getD i []) x : Rat)
def Dat.z (D : Dat) : Nat := D.n + D.m + 1
/-- helper 0, the variables 1 .., the rows' own ones n + 1 .. -/
def Dat.C (D : Dat) (i x : Nat) : Rat := if x = D.n + 1 + i then 1 else if x = 0 then -1 else if x ≤ D.n then - D.at i x else 0
def sysG (D : Dat) (n' : Nat) (g : Nat → Rat) : Sys where
  m := D.m + 1
  n := n'
  C := fun r x => match r with
    | 0 => if x = D.z then 1 else - g x
    | r + 1 => if x = D.z then 0 else D.C r x
  a := fun r => match r with
    | 0 => 0
    | r + 1 => D.at r 0
theorem Dat.whole (D : Dat) (i x : Nat) : Wh (D.C i x) := by
  unfold Dat.C Dat.at
  split
  · exact .one
  · split
    · exact Wh.one.neg
    · split
      · exact Wh.neg ⟨_, rfl⟩
      · exact .zero
section
variable {D : Dat} {n' : Nat} {g : Nat → Rat} {t : Tb} {base : List Int} (h : Nm base t) (s : Shape D.m n' t) (hz : ∀ x ∈ base, x.toNat ≠ D.z)
include h s hz
end
end Lp

namespace Lp
/-! ### how it begins -/
def idsI (a k : Nat) : List Int := (List.range k).map fun j => ((a + j : Nat) : Int)
def base2 (D : Dat) : List Int := idsI 1 D.n ++ idsI (D.n + 1) D.m
def Tb.init (D : Dat) : Tb := ⟨1, idsI 1 D.n, idsI (D.n + 1) D.m, D.A, List.replicate (D.n + 1) 0⟩
/-- with the helper 0 -/
def Tb.help (t : Tb) : Tb := ⟨t.den, t.tops ++ [0], t.heads, t.rows.map fun r => r ++ [1], List.replicate t.goal.length 0 ++ [1]⟩
section
variable {D : Dat} (ok : D.Ok)
include ok
def g0 : Nat → Rat := fun x => if x = 0 then 1 else 0
end
end Lp

namespace Lp
/-! ### the first walk: to a feasible tableau -/
def consts (t : Tb) : List Int := t.rows.map fun r => gI r 0
def leastC (t : Tb) : Int := (consts t).foldr min 0
def idxC (t : Tb) : Nat := (consts t).idxOf (leastC t)
section
variable {D : Dat} {u : Tb} {base : List Int} {n' : Nat} {g : Nat → Rat} (hs : Shape D.m n' u) (hnm : Nm base u) (hz : ∀ x ∈ base, x.toNat ≠ D.z) (hb : ∀ x ∈ base, x ≤ D.n + D.m)
include hs hnm hz hb
omit hb in
end
section
variable {D : Dat} (ok : D.Ok)
include ok
end
end Lp

namespace Lp
/-! ### without the helper, and with a goal -/
def Tb.dele (t : Tb) (q : Nat) : Tb := ⟨t.den, t.tops.eraseIdx q, t.heads, t.rows.map fun r => r.eraseIdx (q + 1), t.goal⟩
/-- the goal, one variable after the other -/
def Tb.putS (t : Tb) (fac : List Int) (found : List Int) (j : Nat) : List Int :=
  if ((j : Int) + 1) ∈ t.tops then found.set (t.tops.idxOf ((j : Int) + 1) + 1) (gI found (t.tops.idxOf ((j : Int) + 1) + 1) + gI fac j * t.den)
  else List.zipWith (fun a b => a + gI fac j * b) found (t.row (t.heads.idxOf ((j : Int) + 1)))
def Tb.putL (t : Tb) (fac : List Int) (k : Nat) : List Int := (List.range k).foldl (t.putS fac) (List.replicate (t.tops.length + 1) 0)
def Tb.put (t : Tb) (fac : List Int) : Tb := { t with goal := t.putL fac fac.length }
section
variable {D : Dat} {t : Tb} (hs : Shape D.m D.n t) (hnm : Nm (base2 D) t)
include hs hnm
end
end Lp

namespace Lp
/-! ### what a tableau at its end says -/
/-- the number of the variable x in the goal -/
def yO (n' : Nat) (u : Tb) (x : Nat) : Rat := sm n' fun k => if (gI u.tops k).toNat = x then (gI u.goal (k + 1) : Rat) / (u.den : Rat) else 0
/-- the value of the variable x where all tops are 0 -/
def bv (m : Nat) (u : Tb) (x : Nat) : Rat := sm m fun i => if (gI u.heads i).toNat = x then (gI (u.row i) 0 : Rat) / (u.den : Rat) else 0
theorem pick0 {n x : Nat} {a : Nat → Nat} {c : Nat → Rat} (no : ∀ k, k < n → a k ≠ x) : (sm n fun k => if a k = x then c k else 0) = 0 := sm_zero fun k hk => if_neg (no k hk)
section
variable {D : Dat} {n' N : Nat} {g : Nat → Rat} {u : Tb} {base : List Int} (G : Good (sysG D n' g) D.z D.m n' N u) (hnm : Nm base u) (hz : ∀ x ∈ base, x.toNat ≠ D.z) (hb : ∀ x ∈ base, x ≤ D.n + D.m)
include G hnm
theorem bt' {j k : Nat} (hj : j < D.m) (hk : k < n') : (gI u.heads j).toNat ≠ (gI u.tops k).toNat := fun e => by
  have nn := hnm.nnt G.sh
  have := nn.heads j
  have := nn.tops k
  exact hnm.bt G.sh hj hk (by omega)
theorem yO_head {i : Nat} (hi : i < D.m) : yO n' u (gI u.heads i).toNat = 0 := pick0 (a := fun k => (gI u.tops k).toNat) fun k hk e => bt' G hnm hi hk e.symm
omit hnm in
theorem den_pos : (0 : Rat) < (u.den : Rat) := G.st.pos
/-- one of both is 0 -/
theorem apart (x : Nat) : yO n' u x = 0 ∨ bv D.m u x = 0 := by
  by_cases h : ∃ i, i < D.m ∧ (gI u.heads i).toNat = x
  · obtain ⟨i, hi, rfl⟩ := h
    exact .inl (yO_head G hnm hi)
  · exact .inr (pick0 (a := fun k => (gI u.heads k).toNat) fun i hi e => h ⟨i, hi, e⟩)
include hz hb
end
end Lp

namespace Lp
/-! ### told by the unknowns and the rows -/
def slack (D : Dat) (w : Nat → Rat) (i : Nat) : Rat := D.at i 0 + sm D.n fun j => D.at i (j + 1) * w (j + 1)
def grow (D : Dat) (w : Nat → Rat) (i : Nat) : Rat := sm D.n fun j => D.at i (j + 1) * w (j + 1)
/-- the variables, with the rows' own ones -/
def ext (D : Dat) (w : Nat → Rat) (t : Rat) (x : Nat) : Rat := if x = D.z then t else if x = 0 then 0 else if x ≤ D.n then w x else slack D w (x - (D.n + 1))
def fsum (fac : List Int) (n : Nat) (w : Nat → Rat) : Rat := sm n fun j => (gI fac j : Rat) * w (j + 1)
/-- told: a least value -/
structure ToldC (D : Dat) (fac : List Int) (t : Rat) (x y z : Nat → Rat) : Prop where
  x0 : ∀ j, 0 ≤ x j
  s0 : ∀ i, i < D.m → 0 ≤ slack D x i
  val : fsum fac D.n x = t
  y0 : ∀ i, 0 ≤ y i
  z0 : ∀ j, 0 ≤ z j
  id : ∀ w, fsum fac D.n w = t + (sm D.n fun j => z (j + 1) * w (j + 1)) + sm D.m fun i => y i * slack D w i
  cy : ∀ i, i < D.m → y i = 0 ∨ slack D x i = 0
  cz : ∀ j, z j = 0 ∨ x j = 0
structure NoneC (D : Dat) (t : Rat) (y z : Nat → Rat) : Prop where
  t0 : 0 < t
  y0 : ∀ i, 0 ≤ y i
  z0 : ∀ j, 0 ≤ z j
  id : ∀ w, 0 = t + (sm D.n fun j => z (j + 1) * w (j + 1)) + sm D.m fun i => y i * slack D w i
structure EndC (D : Dat) (fac : List Int) (x w : Nat → Rat) : Prop where
  x0 : ∀ j, 0 ≤ x j
  s0 : ∀ i, i < D.m → 0 ≤ slack D x i
  w0 : ∀ j, 0 ≤ w j
  g0 : ∀ i, i < D.m → 0 ≤ grow D w i
  down : fsum fac D.n w < 0
section
variable {D : Dat} {N : Nat} {u : Tb}
end
end Lp

namespace Lp
/-! ### the whole road, as the program walks it -/
def Tb.fits (L : Nat) (t : Tb) : Bool := decide (t.den.natAbs ≤ L) && (t.rows.all fun r => r.all fun x => decide (x.natAbs ≤ L)) && (t.goal.all fun x => decide (x.natAbs ≤ L))
def Tb.lowerC (L : Nat) : Nat → Tb → Option (Tb × Option Nat)
  | 0, _ => none
  | f + 1, t => if t.fits L = true then match t.fall with
    | none => some (t, none)
    | some p => match t.leave p with
      | none => some (t, some p)
      | some i => Tb.lowerC L f (t.exch i (p - 1)) else none
def feas (L f : Nat) (t : Tb) : Option (Tb × Bool) :=
  if leastC t = 0 then some (t, true) else
  if t.help.fits L = true then match (t.help.exch (idxC t) t.tops.length).lowerC L f with
  | none => none
  | some (u, _) => if (0 : Int) ∈ u.heads then some (u, false) else some (u.dele (u.tops.idxOf 0), true) else none
inductive Low where
  | non (u : Tb)
  | endless (u : Tb) (p : Nat)
  | told (u : Tb)
def low (L f : Nat) (n : Nat) (A : List (List Int)) (fac : List Int) : Option Low :=
  match feas L f (Tb.init ⟨A.length, n, A⟩) with
  | none => none
  | some (u, false) => some (.non u)
  | some (u, true) => match (u.put fac).lowerC L f with
    | none => none
    | some (v, none) => some (.told v)
    | some (v, some p) => some (.endless v p)
/-- the numbers that are handed in -/
structure Fit (M : Nat) (A : List (List Int)) (fac : List Int) : Prop where
  one : 1 ≤ M
  A : ∀ r ∈ A, ∀ x ∈ r, x.natAbs ≤ M
  fac : ∀ x ∈ fac, x.natAbs ≤ M
section
variable {M n : Nat} {A : List (List Int)} {fac : List Int} (F : Fit M A fac)
include F
omit F in
end
end Lp

namespace Mv
open L2 PySem.Spec PySem PyProof.Rows SlX

/-! ### a tableau on the heap -/
def intsD (l : List Int) : D := .list (l.map .int)
def rowsD (l : List (List Int)) : D := .list (l.map intsD)
/-- the places of the slots -/
structure Sls where
  d : Nat
  t : Nat
  h : Nat
  r : Nat
  g : Nat
structure TbC (K : PySem.W.Frag) (C : Addr) (ix : Sls) : Prop where
  ob : ObC K "Tableau" C
  d : ∃ p, Slot1 K C "den" p ix.d
  t : ∃ p, Slot1 K C "tops" p ix.t
  h : ∃ p, Slot1 K C "heads" p ix.h
  r : ∃ p, Slot1 K C "rows" p ix.r
  g : ∃ p, Slot1 K C "goal" p ix.g
  nd : [ix.d, ix.t, ix.h, ix.r, ix.g].Nodup
/-- at a, its dict at dx, its lists at lt, lh; rows and goal frozen -/
structure TbIn (K : PySem.W.Frag) (C : Addr) (ix : Sls) (F H : Hp) (a dx lt lh : Addr) (vr vg : V) (vs : List (Option V)) (t : Lp.Tb) : Prop where
  ha : H a = some (SlO a C dx vs)
  hd : H dx = some (.xd [])
  sd : vs[ix.d]? = some (some (.int t.den))
  st : vs[ix.t]? = some (some (.ref lt))
  sh : vs[ix.h]? = some (some (.ref lh))
  sr : vs[ix.r]? = some (some vr)
  sg : vs[ix.g]? = some (some vg)
  ht : H lt = some (.lst (t.tops.map .int))
  hh : H lh = some (.lst (t.heads.map .int))
  ne : lt ≠ lh
  rows : Dp K F vr (rowsD t.rows)
  goal : Dp K F vg (intsD t.goal)
  fa : F a = none
  fd : F dx = none
  ft : F lt = none
  fh : F lh = none
structure TbAt (K : PySem.W.Frag) (C : Addr) (ix : Sls) (F0 H0 F H : Hp) (a : Addr) (t : Lp.Tb) : Prop where
  gr : Gr F0 H0 F H
  a0 : H0 a = none
  ex : ∃ dx lt lh vr vg vs, H0 dx = none ∧ H0 lt = none ∧ H0 lh = none ∧ TbIn K C ix F H a dx lt lh vr vg vs t
section
variable {K : PySem.W.Frag}
end
section
variable {K : PySem.W.Frag} {C a dx lt lh : Addr} {ix : Sls} {F0 H0 F H : Hp} {vr vg : V} {vs : List (Option V)} {t : Lp.Tb}
/-- behind a reading with all frozen that answers a number or nothing -/
theorem TbAt.after {F' H' : Hp} (A : TbAt K C ix F0 H0 F H a t) (hh : Same H H') : TbAt K C ix F0 H0 F H' a t := by
  obtain ⟨dx, lt, lh, vr, vg, vs, z1, z2, z3, T⟩ := A.ex
  refine ⟨⟨A.gr.ff, A.gr.fh.trans hh, A.gr.hh.trans hh, A.gr.nw⟩, A.a0, dx, lt, lh, vr, vg, vs, z1, z2, z3, ⟨hh _ _ T.ha, hh _ _ T.hd, T.sd, T.st, T.sh, T.sr, T.sg, hh _ _ T.ht, hh _ _ T.hh, T.ne, T.rows, T.goal, T.fa, T.fd, T.ft, T.fh⟩⟩
end
end Mv

namespace Mv
open L2 PySem.Spec PySem PyProof.Rows SlX

/-! ### methods that change a tableau -/
/-- where a tableau lies -/
structure Tq where
  a : Addr
  dx : Addr
  lt : Addr
  lh : Addr
def Tq.has (q : Tq) (b : Addr) : Prop := b = q.a ∨ b = q.dx ∨ b = q.lt ∨ b = q.lh
instance (q : Tq) (b : Addr) : Decidable (q.has b) := inferInstanceAs (Decidable (b = q.a ∨ b = q.dx ∨ b = q.lt ∨ b = q.lh))
def TbI (K : PySem.W.Frag) (C : Addr) (ix : Sls) (F H : Hp) (q : Tq) (t : Lp.Tb) : Prop := ∃ vr vg vs, TbIn K C ix F H q.a q.dx q.lt q.lh vr vg vs t
/-- the heap without the tableau -/
def cutq (H : Hp) (q : Tq) : Hp := fun b => if q.has b then none else H b
/-- the tableau may have changed, all else stays -/
def GrT (q : Tq) (F H F' H' : Hp) : Prop := Gr F (cutq H q) F' H'
theorem cutq_same {H : Hp} {q : Tq} : Same (cutq H q) H := fun b o e => by
  unfold cutq at e
  split at e
  · cases e
  · exact e
theorem cutq_ne {H : Hp} {q : Tq} {b : Addr} (h : ¬ q.has b) : cutq H q b = H b := by unfold cutq; rw [if_neg h]
theorem cutq_has {H : Hp} {q : Tq} {b : Addr} (h : q.has b) : cutq H q b = none := by unfold cutq; rw [if_pos h]
theorem GrT.refl {q : Tq} {F H : Hp} (s : Same F H) : GrT q F H F H := ⟨.refl _, s, cutq_same, fun _ _ h => .inl h⟩
theorem GrT.trans {q : Tq} {F H F1 H1 F2 H2 : Hp} (a : GrT q F H F1 H1) (b : GrT q F1 H1 F2 H2) : GrT q F H F2 H2 := by
  have key : ∀ x o, cutq H q x = some o → cutq H1 q x = some o := fun x o e => by
    by_cases hx : q.has x
    · rw [cutq_has hx] at e; cases e
    · rw [cutq_ne hx]; exact a.hh _ _ e
  refine ⟨a.ff.trans b.ff, b.fh, fun x o e => b.hh _ _ (key x o e), fun x o e => ?_⟩
  rcases b.nw x o e with h | h
  · exact a.nw x o h
  · refine .inr ?_
    cases e2 : cutq H q x with
    | none => rfl
    | some o2 => rw [key x o2 e2] at h; cases h
/-- all else has grown, the tableau as well -/
theorem GrT.of {q : Tq} {F H F' H' : Hp} (g : Gr F H F' H') : GrT q F H F' H' := ⟨g.ff, g.fh, fun b o e => g.hh _ _ (cutq_same _ _ e), fun b o e => (g.nw b o e).imp id fun h => by
  unfold cutq
  split
  · rfl
  · exact h⟩
section
variable {K : PySem.W.Frag} {C : Addr} {ix : Sls} {F H F' H' : Hp} {q : Tq} {t : Lp.Tb}
theorem TbI.up (T : TbI K C ix F H q t) (s : Same H H') : TbI K C ix F H' q t :=
  let ⟨vr, vg, vs, T⟩ := T
  ⟨vr, vg, vs, ⟨s _ _ T.ha, s _ _ T.hd, T.sd, T.st, T.sh, T.sr, T.sg, s _ _ T.ht, s _ _ T.hh, T.ne, T.rows, T.goal, T.fa, T.fd, T.ft, T.fh⟩⟩
theorem TbI.no (T : TbI K C ix F H q t) {b : Addr} (h : q.has b) : F b = none := by
  obtain ⟨vr, vg, vs, T⟩ := T
  rcases h with rfl | rfl | rfl | rfl
  · exact T.fa
  · exact T.fd
  · exact T.ft
  · exact T.fh
theorem TbI.is (T : TbI K C ix F H q t) {b : Addr} (h : q.has b) : H b ≠ none := by
  obtain ⟨vr, vg, vs, T⟩ := T
  rcases h with rfl | rfl | rfl | rfl
  · rw [T.ha]; exact fun z => nomatch z
  · rw [T.hd]; exact fun z => nomatch z
  · rw [T.ht]; exact fun z => nomatch z
  · rw [T.hh]; exact fun z => nomatch z
/-- a promise of a def that changes the tableau that is its first argument -/
def spT (K : PySem.W.Frag) (C : Addr) (ix : Sls) (R : Lp.Tb → List D → D → Lp.Tb → Prop) : Sp := fun vs H Q _ => ∃ (q : Tq) (vs' : List V) (F : Hp) (t : Lp.Tb) (ds : List D) (d : D) (t' : Lp.Tb),
  vs = .ref q.a :: vs' ∧ Same F H ∧ TbI K C ix F H q t ∧ DpAll K F vs' ds ∧ R t ds d t' ∧ ∀ F' H' v, GrT q F H F' H' → TbI K C ix F' H' q t' → Dp K F' v d → Q v H'
/-- a method -/
structure FnT (P : Program) (w : World) (K : PySem.W.Frag) (mg : Str → Option Value) (base : Heap) (C : Addr) (ix : Sls) (x : Str) (k : Nat) (R : Lp.Tb → List D → D → Lp.Tb → Prop) : Prop where
  ex : ∃ (f : Addr) (fd : FuncData) (ps : List Str), Meth K C x f ∧ FnG P w K mg base k f fd ps (spT K C ix R) ∧ Binds K fd ps []
/-- a def of the module -/
structure FnU (P : Program) (w : World) (K : PySem.W.Frag) (mg : Str → Option Value) (base : Heap) (C : Addr) (ix : Sls) (x : Str) (k : Nat) (R : Lp.Tb → List D → D → Lp.Tb → Prop) : Prop where
  ex : ∃ (f : Addr) (fd : FuncData) (ps : List Str), FnG P w K mg base k f fd ps (spT K C ix R) ∧ mg x = some (.ref f) ∧ PySem.W.keepIn K (.ref f) = true ∧ Binds K fd ps []
theorem FnT.mono {P : Program} {w : World} {mg : Str → Option Value} {base : Heap} {x : Str} {j k : Nat} {R : Lp.Tb → List D → D → Lp.Tb → Prop} (F : FnT P w K mg base C ix x j R) (h : j ≤ k) : FnT P w K mg base C ix x k R :=
  let ⟨f, fd, ps, h1, h2, h3⟩ := F.ex
  ⟨f, fd, ps, h1, h2.mono h, h3⟩
theorem FnU.mono {P : Program} {w : World} {mg : Str → Option Value} {base : Heap} {x : Str} {j k : Nat} {R : Lp.Tb → List D → D → Lp.Tb → Prop} (F : FnU P w K mg base C ix x j R) (h : j ≤ k) : FnU P w K mg base C ix x k R :=
  let ⟨f, fd, ps, h1, h2⟩ := F.ex
  ⟨f, fd, ps, h1.mono h, h2⟩
end
/-! ### a block, the heap's own parts named later -/
end Mv

namespace Mv
open L2 PySem.Spec PySem PyProof.Rows SlX
/-! ### C(e, ..), its __init__ kept by a promise without reprs -/
section
variable {X : Cx} {k : Nat} {C f : Addr} {fd : FuncData} {ps : List Str} {sp : Sp} {E : L2.St → XK} {x : Str} {p pos : Pos} {e : Expr} {es : List Expr} {t : TA}
end
end Mv

namespace Mv
open L2 PySem.Spec PySem PyProof.Rows
/-! ### defs with defaults: all of these left out -/
section
variable {K : PySem.W.Frag} {f : Addr} {fd : FuncData} {ps : List Str} {k : Nat} {sp : Sp} {E : L2.St → XK} {X : Cx} {x : Str} {p pos : Pos} {e : Expr} {es : List Expr} {t : TA}
end
structure FnBD (P : Program) (w : World) (K : PySem.W.Frag) (mg : Str → Option Value) (base : Heap) (x : Str) (k : Nat) (m : List D → List D → Option (Out × List D)) (dd : List D) : Prop where
  ex : ∃ (f : Addr) (fd : FuncData) (ps : List Str) (us0 : List Value) (vs0 : List V), FnG P w K mg base k f fd ps (spB K mg m) ∧ mg x = some (.ref f) ∧ PySem.W.keepIn K (.ref f) = true ∧ Binds K fd ps us0 ∧ Vals vs0 us0 ∧ ∀ F, DpAll K F vs0 dd
theorem FnBD.mono {P : Program} {w : World} {K : PySem.W.Frag} {mg : Str → Option Value} {base : Heap} {x : Str} {j k : Nat} {m : List D → List D → Option (Out × List D)} {dd : List D} (F : FnBD P w K mg base x j m dd) (h : j ≤ k) : FnBD P w K mg base x k m dd :=
  let ⟨f, fd, ps, us0, vs0, h1, h2⟩ := F.ex
  ⟨f, fd, ps, us0, vs0, h1.mono h, h2⟩
section
variable {X : Cx} {W : WX} {k : Nat} {x y : Str} {p py pos : Pos} {es : List Expr} {g : M (List D)} {mb : List D → List D → Option (Out × List D)}
end
section
variable {P : Program} {w : World} {K : PySem.W.Frag} {mg : Str → Option Value} {base : Heap} {x qual : Str} {st : Stmt} {f : Addr} {fd : FuncData} {N ps : List Str} {k : Nat}
end
/-- where it lies, its defaults known -/
structure AtD (K : PySem.W.Frag) (x : Str) (st : Stmt) (dd : List D) : Prop where
  ex : ∃ (f : Addr) (fd : FuncData) (dvs : List V), PySem.W.nsIn K mainGlobals x = some (some (.ref f)) ∧ FunD K x x (defArgs st) (defBody st) (defScope st) dvs [] f fd ∧ dvs ≠ [] ∧ (∀ F, DpAll K F dvs dd) ∧ dvs.length = dd.length
end Mv

namespace Mv
open L2 PySem.Spec PySem PyProof.Rows
/-! ### t = tuple(..); return (.., t.index(x)) -/
section
variable {X : Cx}
def Bs.kpt (B : Bs) (p : Addr) (o : HO) : Bs := { B with Kp := upd B.Kp p o }
variable {K : PySem.W.Frag} {mg : Str → Option Value} {B : Bs} {W : WX} {F F1 H : Hp} {σ : L2.St} {en : En} {p : Addr} {o : Obj} {vs : List V} {u : HO}
theorem Sim.kept (S : Sim K B σ en F H) (hp : H p = some (.frz o u)) (hk : B.Kp p = none) : Sim K (B.kpt p (.frz o u)) σ en F H where
  len := S.len
  sub := S.sub
  f0 := S.f0
  new := S.new
  kp := fun a x e => by
    by_cases ha : a = p
    · subst ha
      rw [show (B.kpt a (.frz o u)).Kp a = some (.frz o u) from upd_same] at e
      cases e
      exact hp
    · rw [show (B.kpt p (.frz o u)).Kp a = B.Kp a from upd_ne ha] at e
      exact S.kp _ _ e
  z := S.z
  val := S.val
  own := fun i b xs h => by
    obtain ⟨a, ws, h1, h2, h3, h4, h5, h6⟩ := S.own i b xs h
    refine ⟨a, ws, h1, h2, h3, h4, ?_, h6⟩
    have ha : a ≠ p := by
      rintro rfl
      rw [hp] at h2
      cases h2
    rw [show (B.kpt p (.frz o u)).Kp a = B.Kp a from upd_ne ha]
    exact h5
  apart := S.apart
theorem upd_none {H : Hp} {p a : Addr} {o : HO} (h : upd H p o a = none) : H a = none := by
  by_cases ha : a = p
  · subst ha
    rw [upd_same] at h
    cases h
  · rwa [upd_ne ha] at h
theorem Sim.unkept (S : Sim K (B.kpt p u) σ en F H) (hk : B.Kp p = none) : Sim K B σ en F H where
  len := S.len
  sub := S.sub
  f0 := S.f0
  new := S.new
  kp := fun a x e => S.kp _ _ (same_upd hk _ _ e)
  z := S.z
  val := S.val
  own := fun i b xs h => by
    obtain ⟨a, ws, h1, h2, h3, h4, h5, h6⟩ := S.own i b xs h
    exact ⟨a, ws, h1, h2, h3, h4, upd_none h5, h6⟩
  apart := S.apart
theorem Rl.unkept {v : V} {r : Sl} (h : Rl K (B.kpt p u) σ en F H v r) : Rl K B σ en F H v r := by
  cases r with
  | no => exact h
  | val d => exact h
  | own b xs =>
    obtain ⟨rfl, a, ws, rfl, h1, h2, h3, h4, h5⟩ := h
    exact ⟨rfl, a, ws, rfl, h1, h2, h3, upd_none h4, h5⟩
theorem PostS.kept {Dn : Ends} {r : R Fl} (hk : B.Kp p = none) (q : PostS K mg B W F Dn r) : PostS K mg (B.kpt p u) W F Dn r := by
  cases r with
  | ok a e =>
    cases a with
    | nx => exact fun σ' F' H' S s => q σ' F' H' (S.unkept hk) s
    | rt r => exact fun σ' F' H' v S s rv => q σ' F' H' v (S.unkept hk) s rv.unkept
    | bk => exact fun σ' F' H' S s => q σ' F' H' (S.unkept hk) s
    | ct => exact fun σ' F' H' S s => q σ' F' H' (S.unkept hk) s
  | exc c fs e => exact fun σ' F' H' cls d S s => q σ' F' H' cls d (S.unkept hk) s
  | bad => exact q
variable {e : Expr} {fx : M Sl} {apos cpos : Pos}
variable {eA : Expr} {fA fe : M Sl} {g : M (List D)} {es : List Expr}
end
end Mv

namespace Mv
open L2 PySem.Spec PySem PyProof.Rows
/-! ### dicts whose keys are tuples, nested too: made, not looked at -/
theorem rawN_ok {P : Program} {w : World} {H : Hp} {h : Heap} {a : Addr} {xs : List (NestedKey × Addr × Value)} {o : Obj} {es : Array DictEntry} {ep : Nat} (e : h.get? a = some o) (x : o.ExactDict) (d : o.data = .dict es ep) (he : es.toList = xs.map (entryOfKey (nestedKind P w))) (nd : (xs.map (·.1)).Nodup) : ObjOk P w H h a (rawN P w a xs) :=
  ⟨⟨o, es, ep, e, x, d, he, nd⟩, ⟨o, e⟩, fun h1 h2 ⟨o, es, ep, e, x, d, he, nd⟩ st => ⟨o, es, ep, st _ e, x, d, he, nd⟩⟩
mutual
def nkOf : D → Option NestedKey
  | .int i => some (.num i)
  | .tuple ds => (nksOf ds).map .tup
  | _ => none
def nksOf : List D → Option (List NestedKey)
  | [] => some []
  | d :: ds => (nkOf d).bind fun k => (nksOf ds).map (k :: ·)
end
section
variable {X : Cx} {pins : List
                                                                                                              (Addr × Obj)} {σ : L2.St} {H : Hp} {s : Shared}
mutual
theorem nk_is (I : Inv X pins σ H s) : ∀ (d : D) (v : V) (u : Value) (k : NestedKey), Dp X.K H v d → RelV v u → nkOf d = some k → NestedIs s.heap k u
  | .int i, _, _, _, .int _, r, e => by
    obtain ⟨t, rfl⟩ := r
    rw [nkOf] at e
    cases e
    exact .int _ _
  | .tuple ds, _, u, k, .tup h1 h2, r, e => by
    obtain rfl : u = _ := r
    obtain ⟨its, rv, ⟨o, ho, hc, n, hd⟩, _⟩ := I.tuple h1
    rw [nkOf] at e
    cases hk : nksOf ds with
    | none => rw [hk] at e; cases e
    | some ks =>
      rw [hk] at e
      cases e
      exact .tup ho hc hd (nks_is I ds _ _ ks h2 (by simpa using rv) hk)
  | .none, _, _, _, _, _, e => by rw [nkOf] at e <;> first | cases e | (intros; simp)
  | .bool _, _, _, _, _, _, e => by rw [nkOf] at e <;> first | cases e | (intros; simp)
  | .str _, _, _, _, _, _, e => by rw [nkOf] at e <;> first | cases e | (intros; simp)
  | .list _, _, _, _, _, _, e => by rw [nkOf] at e <;> first | cases e | (intros; simp)
  | .dict _, _, _, _, _, _, e => by rw [nkOf] at e <;> first | cases e | (intros; simp)
theorem nks_is (I : Inv X pins σ H s) : ∀ (ds : List D) (vs : List V) (us : List Value) (ks : List NestedKey), DpAll X.K H vs ds → Vals vs us → nksOf ds = some ks → NestedAll s.heap ks us
  | [], _, _, _, .nil, .nil, e => by rw [nksOf] at e; cases e; exact .nil
  | d :: ds, _, _, _, .cons h1 h2, .cons r1 r2, e => by
    rw [nksOf] at e
    cases hk : nkOf d with
    | none => rw [hk] at e; cases e
    | some k =>
      rw [hk] at e
      cases hks : nksOf ds with
      | none => rw [hks] at e; cases e
      | some ks =>
        rw [hks] at e
        cases e
        exact .cons (nk_is I d _ _ k h1 r1 hk) (nks_is I ds _ _ ks h2 r2 hks)
end
def NkAt (K : PySem.W.Frag) (H : Hp) (b : Addr) (k : NestedKey) : Prop := ∃ kd, Dp K H (.ref b) kd ∧ nkOf kd = some k ∧ k.depth ≤ 8
theorem NkAt.is (I : Inv X pins σ H s) {b : Addr} {k : NestedKey} (h : NkAt X.K H b k) : (nestedKind X.prog X.w).is s.heap k b := let ⟨kd, d, e, l⟩ := h; ⟨nk_is I kd _ _ k d rfl e, l⟩
theorem NkAt.mono {K : PySem.W.Frag} {F F' : Hp} {b : Addr} {k : NestedKey} (e : Same F F') (h : NkAt K F b k) : NkAt K F' b k := let ⟨kd, d, n, l⟩ := h; ⟨kd, dp_mono e d, n, l⟩
theorem storedH_len {K : Type} [DecidableEq K] (xs : List (K × Addr × Value)) (k : K) (a : Addr) (v : Value) : (storedH xs k a v).length ≤ xs.length + 1 := by
  unfold storedH
  split <;> simp
end
section
variable {X : Cx}
end
/-! ### {k: v for ..}, k tuples -/
def nkOk : D → Bool
  | .tuple ds => match nksOf ds with
    | some ks => decide ((NestedKey.tup ks).depth ≤ 8)
    | none => false
  | _ => false
section
variable {X : Cx} {W : WX} {kx vx tg iter : Expr} {ifs : List Expr} {scope : Scope} {own : List (Str × Nat)} {pos : Pos} {it : M (List D)} {pat : D → En → Option En} {tt : M Bool} {ek ev : M Sl}
end
end Mv

namespace Mv
open L2 PySem.Spec PySem PyProof.Rows
/-! ### range(i, j, c) -/
section
variable {K : PySem.W.Frag} {Fk F : Hp}
end
section
variable {X : Cx} {W : WX} {tg a b c : Expr} {g : M (List D)} {p pos : Pos}
end
end Mv

namespace Mv
open L2 PySem.Spec PySem PyProof.Rows
/-! ### d = {}; for p in xs: d[k1] = True; d[k2] = True; ys = list(d): keys that are nested tuples, once each -/
mutual
theorem nk_inj : ∀ (d e : D) (k : NestedKey), nkOf d = some k → nkOf e = some k → d = e
  | .int i, e, k, h1, h2 => by
    rw [nkOf] at h1
    cases h1
    cases e with
    | int j => rw [nkOf] at h2; cases h2; rfl
    | tuple es =>
      rw [nkOf] at h2
      cases hk : nksOf es <;> rw [hk] at h2 <;> cases h2
    | _ => rw [nkOf] at h2 <;> first | cases h2 | (intros; simp)
  | .tuple ds, e, k, h1, h2 => by
    rw [nkOf] at h1
    cases hk : nksOf ds with
    | none => rw [hk] at h1; cases h1
    | some ks =>
      rw [hk] at h1
      cases h1
      cases e with
      | int j => rw [nkOf] at h2; cases h2
      | tuple es =>
        rw [nkOf] at h2
        cases hk2 : nksOf es with
        | none => rw [hk2] at h2; cases h2
        | some ks2 =>
          rw [hk2] at h2
          cases h2
          rw [nks_inj ds es ks hk hk2]
      | _ => rw [nkOf] at h2 <;> first | cases h2 | (intros; simp)
  | .none, _, _, e, _ => by rw [nkOf] at e <;> first | cases e | (intros; simp)
  | .bool _, _, _, e, _ => by rw [nkOf] at e <;> first | cases e | (intros; simp)
  | .str _, _, _, e, _ => by rw [nkOf] at e <;> first | cases e | (intros; simp)
  | .list _, _, _, e, _ => by rw [nkOf] at e <;> first | cases e | (intros; simp)
  | .dict _, _, _, e, _ => by rw [nkOf] at e <;> first | cases e | (intros; simp)
theorem nks_inj : ∀ (ds es : List D) (ks : List NestedKey), nksOf ds = some ks → nksOf es = some ks → ds = es
  | [], es, ks, h1, h2 => by
    rw [nksOf] at h1
    cases h1
    cases es with
    | nil => rfl
    | cons e es =>
      rw [nksOf] at h2
      cases hk : nkOf e with
      | none => rw [hk] at h2; cases h2
      | some k =>
        rw [hk] at h2
        cases hks : nksOf es <;> rw [hks] at h2 <;> cases h2
  | d :: ds, es, ks, h1, h2 => by
    rw [nksOf] at h1
    cases hk : nkOf d with
    | none => rw [hk] at h1; cases h1
    | some k =>
      rw [hk] at h1
      cases hks : nksOf ds with
      | none => rw [hks] at h1; cases h1
      | some ks1 =>
        rw [hks] at h1
        cases h1
        cases es with
        | nil => rw [nksOf] at h2; cases h2
        | cons e es =>
          rw [nksOf] at h2
          cases hk2 : nkOf e with
          | none => rw [hk2] at h2; cases h2
          | some k2 =>
            rw [hk2] at h2
            cases hks2 : nksOf es with
            | none => rw [hks2] at h2; cases h2
            | some ks2 =>
              rw [hks2] at h2
              cases h2
              rw [nk_inj d e k hk hk2, nks_inj ds es ks1 hks hks2]
end
def nkIn (ks : List D) (y : D) : Bool := ks.any fun z => decide (nkOf z = nkOf y)
def putN (ks : List D) (y : D) : List D := if nkIn ks y = true then ks else ks ++ [y]
def AR (K : PySem.W.Frag) (F : Hp) : List (NestedKey × Addr × Value) → List D → Prop
  | [], [] => True
  | a :: acc, d :: ks => (Dp K F (.ref a.2.1) d ∧ nkOf d = some a.1 ∧ a.1.depth ≤ 8) ∧ AR K F acc ks
  | _, _ => False
section
variable {K : PySem.W.Frag} {F F' : Hp}
theorem AR.mono (e : Same F F') : ∀ {acc : List (NestedKey × Addr × Value)} {ks : List D}, AR K F acc ks → AR K F' acc ks
  | [], [], h => h
  | _ :: _, _ :: _, h => ⟨⟨dp_mono e h.1.1, h.1.2⟩, AR.mono e h.2⟩
  | [], _ :: _, h => h.elim
  | _ :: _, [], h => h.elim
theorem AR.nk : ∀ {acc : List (NestedKey × Addr × Value)} {ks : List D}, AR K F acc ks → ∀ x ∈ acc, NkAt K F x.2.1 x.1
  | [], [], _, x, hx => by cases hx
  | a :: acc, d :: ks, h, x, hx => by
    rcases List.mem_cons.mp hx with
                                                                                                                  rfl | hx
    · exact ⟨d, h.1.1, h.1.2⟩
    · exact AR.nk h.2 x hx
  | [], _ :: _, h, _, _ => h.elim
  | _ :: _, [], h, _, _ => h.elim
theorem AR.len : ∀ {acc : List (NestedKey × Addr × Value)} {ks : List D}, AR K F acc ks → acc.length = ks.length
  | [], [], _ => rfl
  | _ :: _, _ :: _, h => by rw [List.length_cons, List.length_cons, AR.len h.2]
  | [], _ :: _, h => h.elim
  | _ :: _, [], h => h.elim
theorem AR.dps : ∀ {acc : List (NestedKey × Addr × Value)} {ks : List D}, AR K F acc ks → DpAll K F (acc.map fun x => V.ref x.2.1) ks
  | [], [], _ => .nil
  | _ :: _, _ :: _, h => .cons h.1.1 (AR.dps h.2)
  | [], _ :: _, h => h.elim
  | _ :: _, [], h => h.elim
theorem AR.isin {y : D} {k : NestedKey} (hy : nkOf y = some k) : ∀ {acc : List (NestedKey × Addr × Value)} {ks : List D}, AR K F acc ks → (atKey acc k).isSome = nkIn ks y
  | [], [], _ => rfl
  | a :: acc, d :: ks, h => by
    have ih := AR.isin hy h.2
    unfold atKey nkIn at *
    rw [Option.isSome_map] at ih ⊢
    rw [List.find?_cons, List.any_cons, ← ih, h.1.2.1, hy]
    by_cases e : a.1 = k
    · simp [e]
    · simp [e]
  | [], _ :: _, h => h.elim
  | _ :: _, [], h => h.elim
theorem AR.puts {k : NestedKey} {r : Value} : ∀ {acc : List (NestedKey × Addr × Value)} {ks : List D}, AR K F acc ks → AR K F (acc.map (putAt k r)) ks
  | [], [], h => h
  | a :: acc, d :: ks, h => by
    refine ⟨?_, AR.puts h.2⟩
    unfold putAt
    split <;> exact h.1
  | [], _ :: _, h => h.elim
  | _ :: _, [], h => h.elim
theorem AR.app {a : NestedKey × Addr × Value} {d : D} (ha : Dp K F (.ref a.2.1) d ∧ nkOf d = some a.1 ∧ a.1.depth ≤ 8) : ∀ {acc : List (NestedKey × Addr × Value)} {ks : List D}, AR K F acc ks → AR K F (acc ++ [a]) (ks ++ [d])
  | [], [], _ => ⟨ha, trivial⟩
  | _ :: _, _ :: _, h => ⟨h.1, AR.app ha h.2⟩
  | [], _ :: _, h => h.elim
  | _ :: _, [], h => h.elim
theorem AR.put {acc : List (NestedKey × Addr × Value)} {ks : List D} {y : D} {k : NestedKey} {b : Addr} {r : Value} (h : AR K F acc ks) (d : Dp K F (.ref b) y) (hy : nkOf y = some k) (hd : k.depth ≤ 8) : AR K F (storedH acc k b r) (putN ks y) := by
  have e := h.isin hy
  unfold storedH putN
  rw [e]
  split
  · exact h.puts
  · exact h.app ⟨d, hy, hd⟩
theorem nk_at2 {v : V} {d : D} (h : Dp K F v d) (o : nkOk d = true) : ∃ b k, v = .ref b ∧ Dp K F (.ref b) d ∧ nkOf d = some k ∧ k.depth ≤ 8 := by
  unfold nkOk at o
  split at o
  · rename_i ds
    split at o
    · rename_i ks hks
      have e : nkOf (.tuple ds) = some (.tup ks) := by rw [nkOf, hks]; rfl
      cases h with
      | tup h1 h2 => exact ⟨_, _, rfl, .tup h1 h2, e, of_decide_eq_true o⟩
    · cases o
  · cases o
end
section
variable {X : Cx}
def rSetN (X : Cx) : TSet := fun o i v H Q => ∃ D b xs k, o = .ref D ∧ i = .ref b ∧ H D = some (rawN X.prog X.w D xs) ∧ (∀ x ∈ xs, NkAt X.K H x.2.1 x.1) ∧ NkAt X.K H b k ∧ xs.length < sizeLine ∧ ∀ r, Q (upd H D (rawN X.prog X.w D (storedH xs k b r)))
theorem set_N (hu : X.A.units + 9 < cLine) : PSet X (rSetN X) := by
  intro pins s σ H o i v ov iv u
  intro Q I ro ri rv h
  obtain ⟨D, b, xs, k, rfl, rfl, hD, hx, hk, hz, q⟩ := h
  cases (show ov = Value.ref D from ro)
  cases (show iv = Value.ref b from ri)
  obtain ⟨⟨ob, es, ep, e1, e2, e3, e4, e5⟩, _, _⟩ := I.hok D _ hD
  have room : (nestedKind X.prog X.w).room X.A.in1 := by
    show X.A.units + 1 + 8 < cLine
    omega
  refine wpAny_setItem_heap (knd := nestedKind X.prog X.w) (hsz := Nat.le_of_lt hz) room (hk.is I) ⟨ob, es, ep, e1, e2, e3, e4, fun x h => (hx x h).is I, e5⟩ (fun h' dd hs => ⟨_, ?_, q u⟩)
  obtain ⟨o', es', ep', f1, f2, f3, f4, _, f5⟩ := dd
  exact d_write I (by rw [hD]; exact True.intro) hs ⟨o', f1⟩ (rawN_ok f1 f2 f3 f4 f5)
def tDictN (X : Cx) : TE := fun _ H Q => ∀ p, H p = none → (p == sysModules) = false → Q (.ref p) (upd H p (rawN X.prog X.w p []))
theorem pe_dictN {pos : Pos} : PE X (.Dict [] [] pos) (tDictN X) := ⟨fun pins s σ H Q I h =>
  wpAny_Dict_empty ⟨.ref s.heap.objs.size, _, I.laid (a := s.heap.objs.size) (o := rawN X.prog X.w s.heap.objs.size []) (t' := s.toks) (fun _ _ q => Heap.get?_push_of_some _ q) (Nat.le_refl _) (rawN_ok (Heap.get?_push_size _ rfl) ⟨rfl, rfl, rfl⟩ rfl rfl List.nodup_nil), rfl, h _ (I.hok.fresh (Nat.le_refl _)) (beq_eq_false_iff_ne.mpr (Ne.symm (Nat.ne_of_lt I.big)))⟩⟩
theorem call_list_dN (hc : X.calm = true) : CallR X (.type "list") (fun vs H Q => ∃ d xs, vs = [V.ref d] ∧ H d = some (rawN X.prog X.w d xs) ∧ (d == sysModules) = false ∧ xs.length ≤ sizeLine ∧ ∀ p, H p = none → Q (.ref p) (upd H p (.lst (xs.map fun x => V.ref x.2.1)))) := by
  intro pins s σ H xs us
  intro Q I r h
  obtain ⟨d, ks, rfl, hd, hs, hz, q⟩ := h
  obtain ⟨u, rfl, rx⟩ := r.one
  cases rx
  obtain ⟨⟨o, es, ep, ho, hx, hdt, he, hn⟩, _, _⟩ := I.hok d _ hd
  have l1 : es.size = ks.length := by
    have := congrArg List.length he
    rwa [Array.length_toList, List.length_map] at this
  refine PySem.W.kdl_call (kdl_raw hs hx hdt)
                                                                                                                (I.ok.hd hc) ho (by omega) fun h' tk acc' c' kp e it => ?_
  have ea : acc'.toList = ks.map fun x =>
                                                                                                                Value.ref x.2.1 := by
    have hl : acc'.toList.length = ks.length :=
                                                                                                                  by rw [Array.length_toList, it.1]; exact l1
    refine List.ext_getElem? fun j =>
                                                                                                                  ?_
    rw [List.getElem?_map]
    cases hj :
                                                                                                                  acc'.toList[j]? with
    | none =>
      have h1 :=
                                                                                                                    List.getElem?_eq_none_iff.mp hj
      rw [(List.getElem?_eq_none (by omega))]
      rfl
    | some v =>
      obtain ⟨en, hen, hv⟩ := it.2 j v
                                                                                                                    (by rw [← Array.getElem?_toList]; exact hj)
      rw [← Array.getElem?_toList, he, List.getElem?_map] at hen
      cases hb : ks[j]? with
      | none => rw [hb] at hen; cases hen
      | some b =>
        rw [hb] at hen
        have e2 : entryOfKey (nestedKind X.prog X.w) b = en := Option.some.inj hen
        rw [hv, ← e2]
        rfl
  have eb : acc'.toList = (ks.map fun x => x.2.1).map Value.ref := by rw [ea, List.map_map]; rfl
  have rv : Vals ((ks.map fun x =>
                                                                                                                x.2.1).map V.ref) acc'.toList := by rw [eb]; exact vals_refs _
  have em : (ks.map fun x => x.2.1).map V.ref = ks.map fun x => V.ref x.2.1 := by rw [List.map_map]; rfl
  rw [em] at rv
  have hz2 : (ks.map fun x => V.ref x.2.1).length ≤ sizeLine := by rw [List.length_map]; exact hz
  refine ⟨.ref s.heap.objs.size, _, I.laid (t' := tk) (o := .lst (ks.map fun x => V.ref x.2.1)) kp (Nat.le_refl _) ?_, rfl, q _ (I.hok.fresh (Nat.le_refl _))⟩
  exact ⟨hz2, acc'.toList, c', rv, by rw [Array.toArray_toList]; exact e⟩
end
/-! ### a kept thing takes another form -/
section
variable {K : PySem.W.Frag} {B : Bs} {σ : L2.St} {en : En} {F F0 H : Hp} {a : Addr} {o1 o2 : HO}
theorem Sim.putO (S : Sim K (B.moreO F0 a o1) σ en F H) (h0 : Same B.F F0) (h0n : ∀ c o, F0 c = some o → B.F c = some o ∨ ¬ B.Z c) (hk : B.Kp a = none) (h0a : F0 a = none) (hZ : ¬ B.Z a) : Sim K (B.moreO F0 a o2) σ en F (upd H a o2) := by
  obtain ⟨S8, hD8, hF8, hn8⟩ := S.outerO h0 h0n hk h0a
  have S9 : Sim K B σ en F (upd H a o2) := by
    refine ⟨S8.len, same_upd2 S8.sub hF8, S8.f0, S8.new, same_upd2 S8.kp hk, fun c z => ?_, S8.val, fun k b zs hk => ?_, S8.apart⟩
    · rw [upd_ne (fun (e : c = a) => hZ (by rw [← e]; exact z))]; exact S8.z c z
    · obtain ⟨c, ws, q1, q2, q3⟩ := S8.own k b zs hk
      refine ⟨c, ws, q1, ?_, q3⟩
      rw [upd_ne (fun (e : c = a) => hn8 k ⟨_, _, hk⟩ (by rw [← e]; exact q1))]
      exact q2
  refine S9.underO S.f0 (fun c o e => ?_) upd_same fun k hk e => hn8 k hk e
  rcases S.new c o e with z | z
  · exact .inl z
  · exact .inr ⟨fun w => z (.inl w), fun w => z (.inr w)⟩
/-- a slot of which nothing is known -/
theorem Sim.setNo {i : Nat} {v : V} (S : Sim K B σ en F H) : Sim K B (σ.set i (some v)) (en.set i .no) F H := by
  have S1 := S.forget i
  have ne : ∀ (j : Nat) (s : Sl), (en.set i .no)[j]? = some s → s ≠ .no → j ≠ i := fun j s h1 h2 e => by
    subst e
    rw [List.getElem?_set] at h1
    rw [if_pos rfl] at h1
    split at h1
    · exact h2 (Option.some.inj h1).symm
    · cases h1
  have get : ∀ j, j ≠ i → (σ.set i (some v))[j]? = σ[j]? := fun j h => List.getElem?_set_ne (Ne.symm h)
  refine ⟨by rw [List.length_set, List.length_set]; exact S.len, S1.sub, S1.f0, S1.new, S1.kp, S1.z, fun j d hj => ?_, fun j b xs hj => ?_, fun j k c hjk hj hk e1 e2 => ?_⟩
  · rw [get j (ne j _ hj (by simp))]
    exact S1.val j d hj
  · rw [get j (ne j _ hj (by simp))]
    exact S1.own j b xs hj
  · obtain ⟨b, xs, hj⟩ := hj
    obtain ⟨b2, xs2, hk⟩ := hk
    rw [get j (ne j _ hj (by simp))] at e1
    rw [get k (ne k _ hk (by simp))] at e2
    exact S1.apart j k c hjk ⟨_, _, hj⟩ ⟨_, _, hk⟩ e1 e2
end
def itemsAt (j : Nat) : M (List D) := fun en => match en[j]? with
  | some (.val (.list ds)) => .ok ds en
  | some (.val (.tuple ds)) => .ok ds en
  | some (.own false xs) => .ok xs (en.set j (.val (.list xs)))
  | _ => .bad
def keysL (pat : D → En → Option En) (k1 k2 : M Sl) : List D → List D → En → R (List D)
  | [], ks, e => .ok ks e
  | d :: ds, ks, e => match pat d e with
    | none => .bad
    | some e1 => (noX (vD k1 e1)).bind fun y e2 => if nkOk y = true then (noX (vD k2 e2)).bind fun z e3 => if nkOk z = true then keysL pat k1 k2 ds (putN (putN ks y) z) e3 else .bad else .bad
def sKeys (l j dst : Nat) (pat : D → En → Option En) (k1 k2 : M Sl) : MS := fun en => match itemsAt j (en.set l .no) with
  | .ok xs e => if xs.length ≤ 100000 ∧ l < en.length then (match keysL pat k1 k2 xs [] e with
    | .ok ks e' => .ok .nx (e'.set dst (.own false ks))
    | _ => .bad) else .bad
  | _ => .bad
section
variable {X : Cx}
theorem for_seq {wi : TI} {g : TG} {tb u : TS} {D : Ends} {σ : L2.St} {H : Hp} {J : It} {n : Nat} {G : Hp → Prop} {Y : Nat → Hp → V → Hp → Prop} (hR : ∀ R : It → Hp → Prop, R J H → wi σ H R) (w : Walk J n G Y) (Pv : Nat → L2.St → Hp → Prop) (h0 : Pv 0 σ H) (hG : ∀ i σ H, i ≤ n → Pv i σ H → G H)
    (hs : ∀ i x σ H H', i < n → Pv i σ H → Y i H x H' → g x σ H' fun σ2 H2 => tb { D with nx := Pv (i + 1), ct := Pv (i + 1), bk := u D } σ2 H2) (hd : ∀ σ H, Pv n σ H → u D σ H) : tSeq (tFor wi g tb) u D σ H :=
  hR _ (for_it (D := { D with nx := u D }) w Pv h0 hG hs hd)
theorem pe_ex {e : Expr} {P : Bs → TE} (h : ∀ B, PE X e (P B)) : PE X e (fun σ H Q => ∃ B, P B σ H Q) := ⟨fun pins s σ H Q I ⟨B, q⟩ => (h B).run pins s σ H Q I q⟩
theorem pg_ex {e : Expr} {P : Bs → TG} (h : ∀ B, PG X e (P B)) : PG X e (fun v σ H Q => ∃ B, P B v σ H Q) := ⟨fun pins s σ H v u Q I r ⟨B, q⟩ => (h B).run pins s σ H v u Q I r q⟩
end
section
variable {X : Cx} {W : WX} {tg k1 k2 : Expr} {rest : List Stmt} {h : MS} {pat : D → En → Option En} {vs : List Nat} {f1 f2 : M Sl} {x y z : Str} {l j dst : Nat} {p1 p2 p3 p4 p5 p6 p7 p8 p9 q1 q2 q3 q4 q5 q6 q7 q8 q9 : Pos} {c1 c2 : Nat}
theorem vss_keys (hu : RoomG 0 X.A) (hc : X.calm = true) (hp : PassesOwn (model X.prog X.w) X.A X.env X.xe) (hN : X.N.Nodup) (hg : VG X tg vs pat) (he1 : VE X W k1 f1) (he2 : VE X W k2 f2) (hr : VSs X W rest h)
    (hgl : Gl X "list") (hml : X.mg "list" = none)
    (hl : X.N[l]? = some x := by rfl) (hlx : Loc X.env.scope x := by first | exact Or.inl rfl | exact Or.inr rfl) (hlv : Vis X.env.scope x := by first | exact Or.inl rfl | exact Or.inr (Or.inl rfl) | exact Or.inr (Or.inr rfl)) (hld : (x == ("__debug__" : Str)) = false := by decide) (hlc : (x == ("__classdict__" : Str)) = false := by decide)
    (hlf : X.fn x = true ∨ X.env.scope.names.lookup x = some .local := by first | exact .inl rfl | exact .inr rfl)
    (hj : X.N[j]? = some y := by rfl) (hjv : Vis X.env.scope y := by first | exact Or.inl rfl | exact Or.inr (Or.inl rfl) | exact Or.inr (Or.inr rfl)) (hjd : (y == ("__debug__" : Str)) = false := by decide) (hjc : (y == ("__classdict__" : Str)) = false := by decide)
    (hd : X.N[dst]? = some z := by rfl) (hdx : Loc X.env.scope z := by first | exact Or.inl rfl | exact Or.inr rfl) (hdf : X.fn z = true ∨ X.env.scope.names.lookup z = some .local := by first | exact .inl rfl | exact .inr rfl)
    (hlvs : l ∉ vs := by decide)
    (s1 : swapsWith (.Dict [] [] p2) (some (.Name x p1)) p3.line X.env = pure false := by rfl)
    (s2 : ∀ v, assign (.Subscript (.Name x p5) k1 p6) X.env v = (do
      let ov ← holding [v] (eval (.Name x p5) X.env)
      let iv ← holding [v, ov] (eval k1 X.env)
      standAt p6
      holding [v, ov,
                                                                                                                    iv] (setItem ov iv v)
      release [v, ov, iv] []) := by intro _; rfl)
    (s3 : ∀ v, assign (.Subscript (.Name x q1) k2 q2) X.env v = (do
      let ov ← holding [v] (eval (.Name x q1) X.env)
      let iv ← holding [v, ov] (eval k2 X.env)
      standAt q2
      holding [v, ov,
                                                                                                                    iv] (setItem ov iv v)
      release [v, ov, iv] []) := by intro _; rfl)
    (s4 : swapsWithSole [.Subscript (.Name x p5) k1 p6] (.Constant (.bool true) c1 p7) p8.line X.env = pure false := by rfl) (s5 : swappedStores [.Subscript (.Name x p5) k1 p6] (.Constant (.bool true) c1 p7) X.env = pure none := by rfl)
    (s6 : (assignEach [.Subscript (.Name x p5) k1 p6] X.env).map (·.2) = [assign (.Subscript (.Name x p5) k1 p6) X.env] := by rfl)
    (s7 : swapsWithSole [.Subscript (.Name x q1) k2 q2] (.Constant (.bool true) c2 q3) q4.line X.env = pure false := by rfl) (s8 : swappedStores [.Subscript (.Name x q1) k2 q2] (.Constant (.bool true) c2 q3) X.env = pure none := by rfl)
    (s9 : (assignEach [.Subscript (.Name x q1) k2 q2] X.env).map (·.2) = [assign (.Subscript (.Name x q1) k2 q2) X.env] := by rfl)
    (sA : ∀ v, foldedSetIterable (.Name y p4) X.env v = pure v := by intro _; rfl)
    (sB : swapsWith (.Call (.Name "list" q5) [.Name x q6] [] q7) (some (.Name z q8)) q9.line X.env = pure false := by rfl)
    (sC : starEach [.Name x q6] X.env = (false, eval (.Name x q6) X.env) :: starEach [] X.env := by rfl) (sD : (backTo q7 (starEach ([] : List Expr) X.env)).any (·.1) = false := by rfl) :
    VSs X W (.Assign [.Name x p1] (.Dict [] [] p2) p3 :: .For tg (.Name y p4) [.Assign [.Subscript (.Name x p5) k1 p6] (.Constant (.bool true) c1 p7) p8, .Assign [.Subscript (.Name x q1) k2 q2] (.Constant (.bool true) c2 q3) q4] [] p9 :: .Assign [.Name z q8] (.Call (.Name "list" q5) [.Name x q6] [] q7) q9 :: rest) (sSeq (sKeys l j dst pat f1 f2) h) := fun B => by
  have un := hu.r.un
  have hset : PSet X (rSetN X) := set_N (by omega)
  have st1 := ps_asg (pos := p8) (pe_bl (b := true) (pos := p7) (j := c1)) (pg_sub (pos := p6) (pe_var (X := X) (pos := p5) hl hlv hld hlc) (pe_ex fun B => he1.d B) hset s2) s4 s5 s6
  have st2 := ps_asg (pos := q4) (pe_bl (b := true) (pos := q3) (j := c2)) (pg_sub (pos := q2) (pe_var (X := X) (pos := q1) hl hlv hld hlc) (pe_ex fun B => he2.d B) hset s3) s7 s8 s9
  have lp := ps_for (pos := p9) hp hc (pi_seq (tg := tg) (pe_var (X := X) (pos := p4) hj hjv hjd hjc)) (pg_ex fun B => hg B) (pss_cons st1 (pss_one st2)) sA
  have e1 := ps_set (pos := p3) hN hl hlx (pe_dictN (X := X) (pos := p2)) s1 hlf
  have e3 := ps_set (pos := q9) hN hd hdx (pe_callTy (pos := q7) (p := q5) (call_list_dN hc) hgl hml rfl (pa_cons (pe_var (X := X) (pos := q6) hl hlv hld hlc) pa_nil sC) (by decide) (by decide) sC sD) sB hdf
  refine pssWk (pss_cons e1 (pss_cons lp (pss_cons e3 (hr B)))) fun Dn σ H ⟨F, en, S, p⟩ => ?_
  intro Da hDn hsys
  have hF : F Da = none := S.sub.free hDn
  have hKD : B.Kp Da = none := S.kp.free hDn
  have hZD : ¬ B.Z Da := fun z => S.z Da z hDn
  have S0 : Sim X.K B (σ.set l (some (.ref Da))) (en.set l .no) F H := S.setNo
  have hl0 : l < en.length → (σ.set l (some (V.ref Da)))[l]? = some (some (.ref Da)) := fun hh => by
    rw [List.getElem?_set, if_pos rfl, if_pos (by rw [S.len]; exact hh)]
  unfold sSeq sKeys at p
  generalize hE : en.set l .no = E0 at p S0
  generalize hσ : σ.set l (some (V.ref Da)) = σ1 at S0 hl0
  have how : ∀ i, isOwn E0 i → σ1[i]? ≠ some (some (.ref Da)) := fun i hi e => by
    obtain ⟨b, zs, hi⟩ := hi
    obtain ⟨a, ws, q1, q2, -⟩ := S0.own i b zs hi
    rw [e] at q1
    cases q1
    rw [hDn] at q2
    cases q2
  have S2 : Sim X.K (B.moreO F Da (rawN X.prog X.w Da [])) σ1 E0 F (upd H Da (rawN X.prog X.w Da [])) := (S0.gr (Gr.made S0.sub hDn)).underO (.refl _) (fun c o e => .inl e) upd_same how
  unfold gName
  rw [hσ]
  dsimp only
  cases hit : itemsAt j E0 with
  | bad => rw [hit] at p; exact p.elim
  | exc c fs e => rw [hit] at p; exact p.elim
  | ok xs e1 =>
    rw [hit] at p
    dsimp only at p
    by_cases hx : xs.length ≤ 100000 ∧ l < en.length
    · rw [if_pos hx] at p
      have hl0 := hl0 hx.2
      have hx := hx.1
      cases hk : keysL pat f1 f2 xs [] e1 with
      | bad => rw [hk] at p; exact p.elim
      | exc c fs e => rw [hk] at p; exact p.elim
      | ok KS E' =>
        rw [hk] at p
        dsimp only at p
        obtain ⟨F1, J, S3, s01, wk, hR⟩ : ∃ F1 J, Sim X.K (B.moreO F Da (rawN X.prog X.w Da [])) σ1 e1 F1 (upd H Da (rawN X.prog X.w Da [])) ∧ Same F F1 ∧ Wk X.K B.Kp F1 J xs ∧ ∀ R : It → Hp → Prop, R J (upd H Da (rawN X.prog X.w Da [])) → iSeq X.K (tVar j) σ1 (upd H Da (rawN X.prog X.w Da [])) R := by
          unfold itemsAt at hit
          split at hit
          · rename_i ds hj0
            cases hit
            obtain ⟨v, g1, g2⟩ := S2.val j _ hj0
            cases g2 with
            | lst h1 h2 => exact ⟨F, _, S2, .refl _, wk_list (.inl h1) h2, fun R r => ⟨_, g1, .inl ⟨_, _, rfl, S2.sub.seq (.inl h1), r⟩⟩⟩
          · rename_i ds hj0
            cases hit
            obtain ⟨v, g1, g2⟩ := S2.val j _ hj0
            cases g2 with
            | tup h1 h2 => exact ⟨F, _, S2, .refl _, wk_tup h1 h2, fun R r => ⟨_, g1, .inr (.inl ⟨_, _, rfl, sqT_mono S2.sub h1, r⟩)⟩⟩
          · rename_i ds hj0
            cases hit
            obtain ⟨F', v, t1, S4, g1, g2⟩ := S2.freezeSlot hj0
            cases g2 with
            | lst h1 h2 => exact ⟨F', _, S4, t1, wk_list (.inl h1) h2, fun R r => ⟨_, g1, .inl ⟨_, _, rfl, S4.sub.seq (.inl h1), r⟩⟩⟩
          · cases hit
        obtain ⟨G, Y, wlk, hG, hY⟩ := wk
        refine for_seq hR wlk (fun i σ2 H2 => ∃ F2 en2 acc ks, Sim X.K (B.moreO F Da (rawN X.prog X.w Da acc)) σ2 en2 F2 H2 ∧ Same F1 F2 ∧ σ2[l]? = some (some (.ref Da)) ∧ AR X.K F2 acc ks ∧ acc.length ≤ 2 * i ∧ keysL pat f1 f2 (xs.drop i) ks en2 = .ok KS E') ⟨F1, e1, [], [], S3, .refl _, hl0, trivial, Nat.zero_le _, by rw [List.drop_zero]; exact hk⟩ (fun i σ2 H2 hi pv => ?_) (fun i x0 σ2 H2 H3 hi pv yy => ?_) fun σ2 H2 pv => ?_
        · obtain ⟨F2, en2, acc, ks, T2, z, -⟩ := pv
          exact hG F2 H2 z T2.sub (T2.outerO S.f0 S.new hKD hF).1.kp
        · obtain ⟨F2, en2, acc, ks, T2, z, hl2, ra, hla, hl⟩ := pv
          obtain ⟨F3, gr, d, hd, dv⟩ := hY i F2 H2 x0 H3 hi z T2.sub (T2.outerO S.f0 S.new hKD hF).1.kp yy
          have ed : xs.drop i = d :: xs.drop (i + 1) := by
            rw [List.drop_eq_getElem_cons hi]
            rw [List.getElem?_eq_getElem hi] at hd
            rw [Option.some.inj hd]
          rw [ed] at hl
          unfold keysL at hl
          have T3 := T2.gr gr
          have z3 := z.trans gr.ff
          have ra3 := ra.mono gr.ff
          cases hpt : pat d en2 with
          | none => rw [hpt] at hl; cases hl
          | some e3 =>
            rw [hpt] at hl
            dsimp only at hl
            refine ⟨_, F3, en2, d, T3, dv, e3, hpt, fun σ4 T4 w4 => ?_⟩
            have hl4 : σ4[l]? = some (some (.ref Da)) := by
              rw [← wipe_getN hlvs, w4, wipe_getN hlvs]
              exact hl2
            refine ⟨.ref Da, hl4, _, F3, e3, T4, ?_⟩
            cases hk1 : vD f1 e3 with
            | exc c fs e => rw [hk1] at hl; cases hl
            | bad => rw [hk1] at hl; cases hl
            | ok y5 e5 =>
              rw [hk1] at hl
              simp only [noX_ok, R.bind_ok] at hl
              by_cases o5 : nkOk y5 = true
              · rw [if_pos o5] at hl
                intro F5 H5 T5 t5
                intro v5 r5
                obtain ⟨b5, n5, rfl, d5, k5, l5⟩ := nk_at2 r5 o5
                have hD5 := (T5.outerO S.f0 S.new hKD hF).2.1
                have ra5 := ra3.mono t5
                refine ⟨Da, b5, acc, n5, rfl, rfl, hD5, fun x hx => (ra5.nk x hx).mono T5.sub, ⟨y5, dp_mono T5.sub d5, k5, l5⟩, lim_lt (by unfold LIM; omega), fun r5' => ?_⟩
                have T6 : Sim X.K (B.moreO F Da (rawN X.prog X.w Da (storedH acc n5 b5 r5'))) σ4 e5 F5 (upd H5 Da (rawN X.prog X.w Da (storedH acc n5 b5 r5'))) := T5.putO S.f0 S.new hKD hF hZD
                have ra6 : AR X.K F5 (storedH acc n5 b5 r5') (putN ks y5) := ra5.put d5 k5 l5
                have la6 := storedH_len acc n5 b5 r5'
                refine ⟨.ref Da, hl4, _, F5, e5, T6, ?_⟩
                cases hk2 : vD f2 e5 with
                | exc c fs e => rw [hk2] at hl; cases hl
                | bad => rw [hk2] at hl; cases hl
                | ok y7 e7 =>
                  rw [hk2] at hl
                  simp only [noX_ok, R.bind_ok] at hl
                  by_cases o7 : nkOk y7 = true
                  · rw [if_pos o7] at hl
                    intro F7 H7 T7 t7
                    intro v7 r7
                    obtain ⟨b7, n7, rfl, d7, k7, l7⟩ := nk_at2 r7 o7
                    have hD7 := (T7.outerO S.f0 S.new hKD hF).2.1
                    have ra7 := ra6.mono t7
                    refine ⟨Da, b7, storedH acc n5 b5 r5', n7, rfl, rfl, hD7, fun x hx => (ra7.nk x hx).mono T7.sub, ⟨y7, dp_mono T7.sub d7, k7, l7⟩, lim_lt (by unfold LIM; omega), fun r7' => ?_⟩
                    have la8 := storedH_len (storedH acc n5 b5 r5') n7 b7 r7'
                    exact ⟨F7, e7, storedH (storedH acc n5 b5 r5') n7 b7 r7', putN (putN ks y5) y7, T7.putO S.f0 S.new hKD hF hZD, z3.trans (t5.trans t7), hl4, ra7.put d7 k7 l7, by omega, hl⟩
                  · rw [if_neg o7] at hl; cases hl
              · rw [if_neg o5] at hl; cases hl
        · obtain ⟨F2, en2, acc, ks, T2, z, hl2, ra, hla, hl⟩ := pv
          rw [List.drop_length] at hl
          unfold keysL at hl
          cases hl
          obtain ⟨So, hD2, -, -⟩ := T2.outerO S.f0 S.new hKD hF
          refine ⟨.ref Da, hl2, Da, acc, rfl, hD2, hsys, lim_line (by unfold LIM; omega), fun pn hpn => ?_⟩
          have rl : Rl X.K B σ2 E' F2 (upd H2 pn (.lst (acc.map fun x : NestedKey × Addr × Value => V.ref x.2.1))) (.ref pn) (.own false KS) := So.res (v := .ref pn) (r := .own false KS) (F' := F2) (H' := upd H2 pn (.lst (acc.map fun x : NestedKey × Addr × Value => V.ref x.2.1))) ⟨rfl, pn, _, rfl, upd_same, So.sub.free hpn, ra.dps, hpn⟩
          exact ⟨F2, E'.set dst (.own false KS), (So.gr (Gr.made So.sub hpn)).store rl, p.up (s01.trans z)⟩
    · rw [if_neg hx] at p
      exact p.elim
end
end Mv

namespace Mv
open L2 PySem.Spec PySem PyProof.Rows
/-! ### own lists lent to a def that gives a tuple of numbers -/
def scal1 : D → Bool
  | .tuple ds => ds.all scal0
  | d => scal0 d
def lendR1 (o : Option Out) (e : En) : R Sl := match o with
  | some (.ret (.val d)) => if scal1 d = true then .ok (.val d) e else .bad
  | _ => .bad
def vCallL1 (m : List D → Option Out) (g : M (List Ag)) : M Sl := fun en => (g en).bind fun as e => match agsOf e as with
  | some ds => lendR1 (m ds) e
  | none => .bad
section
variable {K : PySem.W.Frag} {B : Bs} {σ : L2.St} {en : En} {F F' H : Hp}
theorem dp_scal {v : V} {d : D} (h : Dp K F v d) (s : scal0 d = true) : Dp K F' v d := by
  cases h with
  | non => exact Dp.non
  | bl b => exact Dp.bl b
  | int i => exact Dp.int i
  | str z => exact Dp.str z
  | lst _ _ => cases s
  | tup _ _ => cases s
  | dic _ _ => cases s
  | dit _ _ _ => cases s
  | sob _ _ _ _ => cases s
  | opq _ => cases s
theorem dps_scal : ∀ {vs : List V} {ds : List D}, DpAll K F vs ds → ds.all scal0 = true → DpAll K F' vs ds
  | _, _, .nil, _ => .nil
  | _, _, .cons a b, s => by
    rw [List.all_cons, Bool.and_eq_true] at s
    exact .cons (dp_scal a s.1) (dps_scal b s.2)
open Classical in
theorem Sim.lend2 (S : Sim K B σ en F H) : ∃ G, Same F G ∧ Same G H ∧ (∀ (i : Nat) (b : Bool) (xs : List D), en[i]? = some (.own b xs) → ∃ v, σ[i]? = some (some v) ∧ Dp K G v (.list xs)) ∧ ∀ a o, G a = some o → F a = some o ∨ ∃ vs, o = .lst vs := by
  let G : Hp := fun a => match F a with
    | some o => some o
    | none => if ∃ i, isOwn en i ∧ σ[i]? = some (some (.ref a)) then H a else none
  have s1 : Same F G := fun a o e => by
    show (match F a with | some o => some o | none => _) = some o
    rw [e]
  have key : ∀ a o, G a = some o → F a = some o ∨ (∃ i, isOwn en i ∧ σ[i]? = some (some (.ref a))) ∧ H a = some o := fun a o e => by
    have e' : (match F a with | some o => some o | none => if ∃ i, isOwn en i ∧ σ[i]? = some (some (.ref a)) then H a else none) = some o := e
    cases hf : F a with
    | some u => rw [hf] at e'; exact .inl e'
    | none =>
      rw [hf] at e'
      dsimp only at e'
      split at e'
      · rename_i hi
        exact .inr ⟨hi, e'⟩
      · cases e'
  refine ⟨G, s1, fun a o e => ?_, fun i b xs h => ?_, fun a o e => ?_⟩
  · rcases key a o e with q | q
    · exact S.sub _ _ q
    · exact q.2
  · obtain ⟨a, vs, h1, h2, h3, h4, _⟩ := S.own i b xs h
    refine ⟨.ref a, h1, .lst (.inl ?_) (dps_mono s1 h4)⟩
    show (match F a with | some o => some o | none => if ∃ i, isOwn en i ∧ σ[i]? = some (some (.ref a)) then H a else none) = some (.lst vs)
    rw [h3]
    dsimp only
    rw [if_pos ⟨i, isOwn_out h, h1⟩]
    exact h2
  · rcases key a o e with q | ⟨⟨i, ⟨b, xs, hi⟩, hs⟩, q⟩
    · exact .inl q
    · obtain ⟨a', vs, h1, h2, _⟩ := S.own i b xs hi
      rw [hs] at h1
      cases h1
      rw [q] at h2
      exact .inr ⟨vs, Option.some.inj h2⟩
end
section
variable {X : Cx} {W : WX} {e : Expr} {es : List Expr} {x y : Str} {p py pos : Pos} {g : M (List Ag)} {k : Nat} {m : List D → Option Out} {f : M Sl}
theorem ve_callL1 (C : FnV X.prog X.w X.K X.mg X.base x k m) (hr : RoomG k X.A) (tk : Takes X W) (ha : VAs X W (e :: es) g)
    (hg : Gl X x := by rfl) (hdb : (x == ("__debug__" : Str)) = false := by decide) (he : starEach (e :: es) X.env = (false, eval e X.env) :: starEach es X.env := by rfl) (hpl : (backTo pos (starEach es X.env)).any (·.1) = false := by rfl) :
    VE X W (.Call (.Name x p) (e :: es) [] pos) (vCallL1 m g) := fun B => by
  obtain ⟨fa, fd, ps, FO, hm, hk, hb⟩ := C.ex
  refine peWk (pe_callG (E := WE W) FO hr hg hm hk hb (fun σ => passAt tk σ) (ha B) hdb he hpl) fun σ H Q ⟨F, en, S, q⟩ => ?_
  refine ⟨F, en, S, (Post.bind q).imp fun as en1 F1 H1 S1 s1 q1 vs rv => ?_⟩
  cases hd : agsOf en1 as with
  | none => rw [hd] at q1; exact q1.elim
  | some ds =>
    rw [hd] at q1
    dsimp only at q1
    obtain ⟨G, g1, g2, g3, g4⟩ := S1.lend2
    have dv := S1.args g1 g3 rv hd
    refine ⟨G, ds, g2, dv, ?_⟩
    cases hmm : m ds with
    | none => rw [hmm] at q1; exact q1.elim
    | some o =>
      rw [hmm] at q1
      cases o with
      | exc c fs => exact q1.elim
      | ret r =>
        cases r with
        | no => exact q1.elim
        | own b xs => exact q1.elim
        | val d =>
          unfold lendR1 at q1
          dsimp only at q1
          intro F' H' v gr hv
          by_cases hs : scal1 d = true
          · rw [if_pos hs] at q1
            have gr2 : Gr F1 H1 F1 H' := ⟨.refl _, S1.sub.trans gr.hh, gr.hh, fun _ _ z => .inl z⟩
            have hv : Dp X.K F' v d := hv
            by_cases h0 : scal0 d = true
            · exact q1 F1 H' (S1.gr gr2) (.refl _) v (dp_scal hv h0)
            · cases hv with
              | non => exact absurd rfl h0
              | bl b => exact absurd rfl h0
              | int i => exact absurd rfl h0
              | str z => exact absurd rfl h0
              | lst _ _ => cases hs
              | dic _ _ => cases hs
              | dit _ _ _ => cases hs
              | sob _ _ _ _ => cases hs
              | opq _ => cases hs
              | tup h1 h2 =>
                rename_i a ws es'
                have h2' : ∀ F2 : Hp, DpAll X.K F2 ws es' := fun F2 => dps_scal h2 hs
                rcases h1 with h1 | h1
                · have old : ∀ o, F' a = some o → (∀ vs, o ≠ .lst vs) → (Rd F1 a (.tup ws) ∨ H1 a = none) ∨ True := fun _ _ _ => .inr trivial
                  obtain ⟨o, ho, hrd⟩ : ∃ o, F' a = some o ∧ (o = .tup ws ∨ ∃ o0, o = .frz o0 (.tup ws)) := by
                    rcases h1 with h1 | ⟨o0, h1⟩
                    · exact ⟨_, h1, .inl rfl⟩
                    · exact ⟨_, h1, .inr ⟨o0, rfl⟩⟩
                  have rd : ∀ F2 : Hp, F2 a = some o → Rd F2 a (.tup ws) := fun F2 h => by
                    rcases hrd with rfl | ⟨o0, rfl⟩
                    · exact .inl h
                    · exact .inr ⟨o0, h⟩
                  rcases gr.nw a o ho with z | z
                  · rcases g4 a o z with z | ⟨vs', z⟩
                    · exact q1 F1 H' (S1.gr gr2) (.refl _) _ (.tup (.inl (rd F1 z)) (h2' F1))
                    · rcases hrd with rfl | ⟨o0, rfl⟩ <;> cases z
                  · have hf : F1 a = none := S1.sub.free z
                    have gr3 : Gr F1 H1 (upd F1 a o) H' := ⟨same_upd hf, fun c u hc => by
                      by_cases e : c = a
                      · subst e
                        rw [upd_same] at hc
                        cases hc
                        exact gr.fh _ _ ho
                      · rw [upd_ne e] at hc
                        exact gr.hh _ _ (S1.sub _ _ hc), gr.hh, fun c u hc => by
                      by_cases e : c = a
                      · subst e
                        exact .inr z
                      · rw [upd_ne e] at hc
                        exact .inl hc⟩
                    exact q1 (upd F1 a o) H' (S1.gr gr3) (same_upd hf) _ (.tup (.inl (rd _ upd_same)) (h2' _))
                · exact q1 F1 H' (S1.gr gr2) (.refl _) _ (.tup (.inr h1) (h2' F1))
          · rw [if_neg hs] at q1
            exact q1.elim
end
end Mv

namespace Sh
open PySem Mv
noncomputable section
def e1_sign_patterns (n : Nat) : M Sl := vTup (vStar (vVar 4) (vCons (vVar 5) (vNil)))
def b1_sign_patterns (n : Nat) : MS := sSeq (sSet 3 (vIf (vB (vOp dEq (vVar 2) (vC (.int 0)))) (vTup (vCons (vC (.int 1)) (vNil))) (vTup (vCons (vC (.int 1)) (vCons (vUn dNeg (vC (.int 1))) (vNil)))))) (sSet 1 (vLc2 (vItems (vVar 1)) (pNm 4) (bYes) (vItems (vVar 3)) (pNm 5) (bYes) (e1_sign_patterns n) [4, 5] [5]))
/-! ### sign_patterns -/
def g_sign_patterns (n : Nat) : MS := sSeq (sSet 1 (vLst (vCons (vTup (vNil)) (vNil)))) (sSeq (sFor (vRng1 (vCons (vVar 0) (vNil))) (pNm 2) (b1_sign_patterns n)) (sRetV 1))
def m_sign_patterns : List D → Option Out := runM 1 6 g_sign_patterns (fun _ => 0)
def e1_signed_sum (n : Nat) : M Sl := vTup (vCons (vOp dMul2 (vVar 3) (vVar 2)) (vCons (vVar 4) (vNil)))
/-! ### signed_sum -/
def g_signed_sum (n : Nat) : MS := sRet (vCall m_added (vCons (vLc (vZip (vCons (vVar 0) (vCons (vVar 1) (vNil)))) (pTup (pCons (pTup (pCons (pNm 3) (pCons (pNm 4) (pNil)))) (pCons (pNm 2) (pNil)))) (bYes) (e1_signed_sum n) [2, 3, 4]) (vNil)))
def m_signed_sum : List D → Option Out := runM 2 5 g_signed_sum (fun _ => 0)
def e1_raised (n : Nat) : M Sl := vIf (vB (vOp dEq (vVar 9) (vC (.int 1)))) (vIxv 8 (vC (.int 0))) (vIxv 8 (vC (.int 1)))
def b1_raised (n : Nat) : MS := sSeq (sSet 7 (vCall m_least_of (vCons (vLst (vCons (vVar 3) (vCons (vCall m_less (vCons (vVar 6) (vCons (vVar 5) (vNil)))) (vNil)))) (vNil)))) (sSeq (sStore 2 (vVar 4) (vIf (vB (vOp dEq (vIxv 1 (vVar 4)) (vC (.int 1)))) (vCall m_added (vCons (vLst (vCons (vIxv 2 (vVar 4)) (vCons (vVar 7) (vNil)))) (vNil))) (vCall m_less (vCons (vIxv 2 (vVar 4)) (vCons (vVar 7) (vNil)))))) (sSet 3 (vCall m_less (vCons (vVar 3) (vCons (vVar 7) (vNil))))))
def s1_raised (n : Nat) : MS := sSet 2 (vLc (vZip (vCons (vVar 0) (vCons (vVar 1) (vNil)))) (pTup (pCons (pNm 8) (pCons (pNm 9) (pNil)))) (bYes) (e1_raised n) [8, 9])
def s2_raised (n : Nat) : MS := sSet 3 (vCall m_less (vCons (vC (.tuple [(.int 0), (.int 1)])) (vCons (vCallL1 m_signed_sum (aLend 2 (aLend 1 (aNil)))) (vNil))))
def s3_raised (n : Nat) : MS := sIf (vB (vOp (dCmp fun i j => decide (i < j)) (vCall m_compared (vCons (vVar 3) (vCons (vC (.tuple [(.int 0), (.int 1)])) (vNil)))) (vC (.int 0)))) (sRet (vC .none)) (sNil)
def s4_raised (n : Nat) : MS := sFor (vEnum (vCons (vVar 0) (vNil))) (pTup (pCons (pNm 4) (pCons (pTup (pCons (pNm 5) (pCons (pNm 6) (pNil)))) (pNil)))) (b1_raised n)
def s5_raised (n : Nat) : MS := sRet (vIf (vB (vOp dEq (vVar 3) (vC (.tuple [(.int 0), (.int 1)])))) (vCb dTuple (vCons (vVar 2) (vNil))) (vC .none))
/-! ### raised -/
def g_raised (n : Nat) : MS := sSeq (s1_raised n) (sSeq (s2_raised n) (sSeq (s3_raised n) (sSeq (s4_raised n) (s5_raised n))))
def m_raised : List D → Option Out := runM 2 10 g_raised (fun _ => 0)
def b1_signing (n : Nat) : MS := sSeq (sSet 2 (vCall m_raised (vCons (vVar 0) (vCons (vVar 1) (vNil))))) (sIf (vB (vOp dIsnt (vVar 2) (vC .none))) (sRet (vTup (vCons (vVar 2) (vCons (vVar 1) (vNil))))) (sNil))
/-! ### signing -/
def g_signing (n : Nat) : MS := sSeq (sFor (vItems (vCall m_sign_patterns (vCons (vLenv 0) (vNil)))) (pNm 1) (b1_signing n)) (sRet (vC .none))
def m_signing : List D → Option Out := runM 1 3 g_signing (fun _ => 0)
def e1_is_signing (n : Nat) : M Sl := vUn (isiD "tuple") (vVar 8)
def e2_is_signing (n : Nat) : M Sl := vAnd (vCall m_is_integer (vCons (vVar 7) (vNil))) (vOp dIn (vVar 7) (vTup (vCons (vC (.int 1)) (vCons (vUn dNeg (vC (.int 1))) (vNil)))))
def b1_is_signing (n : Nat) : MS := sIf (bOr (bNot (vB (vCall m_is_fraction (vCons (vVar 4) (vNil))))) (bOr (vB (vOp (dCmp fun i j => decide (i < j)) (vCall m_compared (vCons (vVar 4) (vCons (vVar 5) (vNil)))) (vC (.int 0)))) (vB (vOp (dCmp fun i j => decide (j < i)) (vCall m_compared (vCons (vVar 4) (vCons (vVar 6) (vNil)))) (vC (.int 0)))))) (sRet (vC (.bool false))) (sNil)
def s1_is_signing (n : Nat) : MS := sIf (bOr (bNot (vB (vUn (isiD "tuple") (vVar 1)))) (bOr (vB (vOp dNe (vLenv 1) (vC (.int 2)))) (bNot (vB (vCb dAll (vCons (vLc (vItems (vVar 1)) (pNm 8) (bYes) (e1_is_signing n) [8]) (vNil))))))) (sRet (vC (.bool false))) (sNil)
def s2_is_signing (n : Nat) : MS := sIf (bOr (vB (vOp dNe (vLenv 2) (vLenv 0))) (vB (vOp dNe (vLenv 3) (vLenv 0)))) (sRet (vC (.bool false))) (sNil)
def s3_is_signing (n : Nat) : MS := sIf (bNot (vB (vCb dAll (vCons (vLc (vItems (vVar 3)) (pNm 7) (bYes) (e2_is_signing n) [7]) (vNil))))) (sRet (vC (.bool false))) (sNil)
def s4_is_signing (n : Nat) : MS := sFor (vZip (vCons (vVar 2) (vCons (vVar 0) (vNil)))) (pTup (pCons (pNm 4) (pCons (pTup (pCons (pNm 5) (pCons (pNm 6) (pNil)))) (pNil)))) (b1_is_signing n)
def s5_is_signing (n : Nat) : MS := sRet (vOp dEq (vCall m_signed_sum (vCons (vVar 2) (vCons (vVar 3) (vNil)))) (vC (.tuple [(.int 0), (.int 1)])))
/-! ### is_signing -/
def g_is_signing (n : Nat) : MS := sSeq (s1_is_signing n) (sSeq (sAsg (pTup (pCons (pNm 2) (pCons (pNm 3) (pNil)))) (vVar 1)) (sSeq (s2_is_signing n) (sSeq (s3_is_signing n) (sSeq (s4_is_signing n) (s5_is_signing n)))))
def m_is_signing : List D → Option Out := runM 2 9 g_is_signing (fun _ => 0)
def t1__law_is_signing (n : Nat) : M Bool := bOr (bNot (vB (vCall m__law_integer (vCons (vVar 4) (vNil))))) (vB (vOp dNotIn (vVar 4) (vTup (vCons (vC (.int 1)) (vCons (vUn dNeg (vC (.int 1))) (vNil))))))
def t2__law_is_signing (n : Nat) : M Bool := bOr (bNot (vB (vCall m__law_is_fraction (vCons (vVar 5) (vNil))))) (bNot (vB (vCall m__law_within (vCons (vVar 6) (vCons (vVar 5) (vNil))))))
def e1__law_is_signing (n : Nat) : M Sl := vCall m__law_by (vCons (vVar 5) (vCons (vTup (vCons (vVar 4) (vCons (vC (.int 1)) (vNil)))) (vNil)))
def s1__law_is_signing (n : Nat) : MS := sIf (bOr (bNot (vB (vUn (isiD "tuple") (vVar 1)))) (bOr (vB (vOp dNe (vLenv 1) (vC (.int 2)))) (bOr (bNot (vB (vUn (isiD "tuple") (vIxv 1 (vC (.int 0)))))) (bNot (vB (vUn (isiD "tuple") (vIxv 1 (vC (.int 1))))))))) (sRet (vC (.bool false))) (sNil)
def s2__law_is_signing (n : Nat) : MS := sIf (bOr (vB (vOp dNe (vLenv 2) (vLenv 0))) (vB (vOp dNe (vLenv 3) (vLenv 0)))) (sRet (vC (.bool false))) (sNil)
def s3__law_is_signing (n : Nat) : MS := sIf (vB (vOp dNe (vLc (vItems (vVar 3)) (pNm 4) (t1__law_is_signing n) (vC (.int 1)) [4]) (vLst (vNil)))) (sRet (vC (.bool false))) (sNil)
def s4__law_is_signing (n : Nat) : MS := sIf (vB (vOp dNe (vLc (vZip (vCons (vVar 2) (vCons (vVar 0) (vNil)))) (pTup (pCons (pNm 5) (pCons (pNm 6) (pNil)))) (t2__law_is_signing n) (vC (.int 1)) [5, 6]) (vLst (vNil)))) (sRet (vC (.bool false))) (sNil)
def s5__law_is_signing (n : Nat) : MS := sRet (vOp dEq (vOp dIx (vCall m__law_plus (vCons (vLc (vZip (vCons (vVar 2) (vCons (vVar 3) (vNil)))) (pTup (pCons (pNm 5) (pCons (pNm 4) (pNil)))) (bYes) (e1__law_is_signing n) [5, 4]) (vNil))) (vC (.int 0))) (vC (.int 0)))
/-! ### _law_is_signing -/
def g__law_is_signing (n : Nat) : MS := sSeq (s1__law_is_signing n) (sSeq (sAsg (pTup (pCons (pNm 2) (pCons (pNm 3) (pNil)))) (vVar 1)) (sSeq (s2__law_is_signing n) (sSeq (s3__law_is_signing n) (sSeq (s4__law_is_signing n) (s5__law_is_signing n)))))
def m__law_is_signing : List D → Option Out := runM 2 7 g__law_is_signing (fun _ => 0)
def e1__law_some_signs (n : Nat) : M Sl := vTup (vCons (vCall m__law_plus (vCons (vLst (vCons (vVar 5) (vCons (vVar 2) (vNil)))) (vNil))) (vCons (vCall m__law_plus (vCons (vLst (vCons (vVar 6) (vCons (vVar 3) (vNil)))) (vNil))) (vNil)))
def e2__law_some_signs (n : Nat) : M Sl := vTup (vCons (vCall m__law_minus (vCons (vVar 5) (vCons (vVar 3) (vNil)))) (vCons (vCall m__law_minus (vCons (vVar 6) (vCons (vVar 2) (vNil)))) (vNil)))
def b1__law_some_signs (n : Nat) : MS := sSeq (sKeys 4 1 1 (pTup (pCons (pNm 5) (pCons (pNm 6) (pNil)))) (e1__law_some_signs n) (e2__law_some_signs n)) (sNil)
def t1__law_some_signs (n : Nat) : M Bool := vB (vChain (dCmp fun i j => decide (i ≤ j)) (dCmp fun i j => decide (i ≤ j)) (vIxv 5 (vC (.int 0))) (vC (.int 0)) (vIxv 6 (vC (.int 0))))
/-! ### _law_some_signs -/
def g__law_some_signs (n : Nat) : MS := sSeq (sSet 1 (vLst (vCons (vTup (vCons (vTup (vCons (vC (.int 0)) (vCons (vC (.int 1)) (vNil)))) (vCons (vTup (vCons (vC (.int 0)) (vCons (vC (.int 1)) (vNil)))) (vNil)))) (vNil)))) (sSeq (sFor (vItems (vVar 0)) (pTup (pCons (pNm 2) (pCons (pNm 3) (pNil)))) (b1__law_some_signs n)) (sRet (vOp dNe (vLc (vItems (vVar 1)) (pTup (pCons (pNm 5) (pCons (pNm 6) (pNil)))) (t1__law_some_signs n) (vC (.int 1)) [5, 6]) (vLst (vNil)))))
def m__law_some_signs : List D → Option Out := runM 1 7 g__law_some_signs (fun _ => 0)
def b1__law_near_v2 (n : Nat) : MS := sApp 5 (vTup (vCons (vOp dAdd (vOp dAdd (vSlv 3 (oNone) (oSome (vVar 6))) (vTup (vCons (vVar 7) (vNil)))) (vSlv 3 (oSome (vOp dAdd (vVar 6) (vC (.int 1)))) (oNone))) (vCons (vVar 4) (vNil))))
def b2__law_near_v2 (n : Nat) : MS := sApp 5 (vTup (vCons (vVar 3) (vCons (vOp dAdd (vOp dAdd (vSlv 4 (oNone) (oSome (vVar 6))) (vTup (vCons (vVar 8) (vNil)))) (vSlv 4 (oSome (vOp dAdd (vVar 6) (vC (.int 1)))) (oNone))) (vNil))))
def s1__law_near_v2 (n : Nat) : MS := sSet 5 (vLst (vCons (vVar 2) (vCons (vCb dList (vCons (vVar 2) (vNil))) (vCons (vTup (vCons (vVar 3) (vNil))) (vCons (vTup (vCons (vCb dList (vCons (vVar 3) (vNil))) (vCons (vVar 4) (vNil)))) (vCons (vTup (vCons (vVar 3) (vCons (vCb dList (vCons (vVar 4) (vNil))) (vNil)))) (vCons (vC .none) (vCons (vTup (vNil)) (vCons (vTup (vCons (vVar 4) (vCons (vVar 3) (vNil)))) (vCons (vTup (vCons (vOp dAdd (vVar 3) (vTup (vCons (vTup (vCons (vC (.int 0)) (vCons (vC (.int 1)) (vNil)))) (vNil)))) (vCons (vOp dAdd (vVar 4) (vTup (vCons (vC (.int 1)) (vNil)))) (vNil)))) (vNil)))))))))))
def s2__law_near_v2 (n : Nat) : MS := sApp 5 (vTup (vCons (vVar 3) (vCons (vCb dTuple (vCons (vLc (vItems (vVar 4)) (pNm 8) (bYes) (vUn dNeg (vVar 8)) [8]) (vNil))) (vNil))))
def s3__law_near_v2 (n : Nat) : MS := sIf (vB (vOp dNe (vVar 1) (vTup (vNil)))) (sSeq (sSet 6 (vCallB 0 m__law_take (vCons (vLenv 1) (vNil)))) (sSeq (sFor (vItems (vLst (vCons (vCall m__law_plus (vCons (vLst (vCons (vIxv 3 (vVar 6)) (vCons (vTup (vCons (vC (.int 1)) (vCons (vC (.int 3)) (vNil)))) (vNil)))) (vNil))) (vCons (vOp dIx (vIxv 1 (vVar 6)) (vC (.int 0))) (vCons (vOp dIx (vIxv 1 (vVar 6)) (vC (.int 1))) (vCons (vTup (vCons (vC (.int 2)) (vCons (vC (.int 2)) (vNil)))) (vCons (vC (.int 1)) (vCons (vC .none) (vCons (vLst (vCons (vC (.int 1)) (vCons (vC (.int 1)) (vNil)))) (vCons (vTup (vCons (vC (.int 1)) (vCons (vUn dNeg (vC (.int 1))) (vNil)))) (vNil))))))))))) (pNm 7) (b1__law_near_v2 n)) (sFor (vItems (vLst (vCons (vUn dNeg (vIxv 4 (vVar 6))) (vCons (vC (.int 0)) (vCons (vC (.bool true)) (vCons (vC (.int 2)) (vCons (vTup (vCons (vC (.int 1)) (vCons (vC (.int 1)) (vNil)))) (vCons (vC .none) (vNil))))))))) (pNm 8) (b2__law_near_v2 n)))) (sNil)
/-! ### _law_near -/
def g__law_near_v2 (n : Nat) : MS := sSeq (sAsg (pTup (pCons (pNm 3) (pCons (pNm 4) (pNil)))) (vVar 2)) (sSeq (s1__law_near_v2 n) (sSeq (s2__law_near_v2 n) (sSeq (s3__law_near_v2 n) (sRetV 5))))
def m__law_near_v2 : List D → List D → Option (Out × List D) := runB 3 9 g__law_near_v2 (fun _ _ => 0)
end
end Sh

namespace G74
open L2 PySem.Spec PySem PyProof.Rows Mv Sh
def topS (i : Nat) : Stmt := PySem.Challenge.pw_anglesuntold_k74_spans_that_close_by_sig.main.body.getD i (.Pass ⟨0, 0, 0, 0⟩)
section
variable {P : Program} {w : World} {K : PySem.W.Frag} {mg : Str → Option Value} {base : Heap} {f : Addr} {fd : FuncData}

/-! ### common -/
abbrev S_common : Stmt := topS 1
theorem sc_common : FnScope ["one", "other"] ["one", "other"] (defScope S_common) := ⟨rfl, rfl, rfl, by decide +kernel, rfl, by decide +kernel, by decide +kernel⟩
theorem w_common (bt : Blt mg) (F : Fun K "common" "common" S_common f fd) (b : Binds K fd ["one", "other"] []) (hm : mg "common" = some (.ref f)) : FnV P w K mg base "common" 1 m_common :=
  fnv_run (k := 0) F sc_common hm b fun n cdv A outer s H E hr =>
    vss_cons (vs_while n (passes_of rfl) (vb_cmp ov_gt (ve_var 1) (ve_int) (by rfl)) (vss_one (vs_par2 (i := 0) (j := 1) rfl sc_common.nd (vls_cons (ve_var 1) (vls_cons (ve_bin ov_mod (ve_var 0) (ve_var 1)) (vls_nil))) (by rfl) rfl rfl))) (vss_one (vs_retv 0))

/-! ### is_integer -/
abbrev S_is_integer : Stmt := topS 2
theorem sc_is_integer : FnScope ["thing"] ["thing"] (defScope S_is_integer) := ⟨rfl, rfl, rfl, by decide +kernel, rfl, by decide +kernel, by decide +kernel⟩
theorem w_is_integer (bt : Blt mg) (F : Fun K "is_integer" "is_integer" S_is_integer f fd) (b : Binds K fd ["thing"] []) (hm : mg "is_integer" = some (.ref f)) : FnV P w K mg base "is_integer" 1 m_is_integer :=
  fnv_run (k := 0) F sc_is_integer hm b fun n cdv A outer s H E hr =>
    vss_one (vs_ret (ve_and (ve_isi (ve_var 0) (by rfl) bt.isinstance (by rfl) bt.int bo_int) (ve_one (ve_not (ve_isi (ve_var 0) (by rfl) bt.isinstance (by rfl) bt.bool bo_bool)))))

/-! ### is_tuple_of -/
abbrev S_is_tuple_of : Stmt := topS 3
theorem sc_is_tuple_of : FnScope ["thing", "size"] ["thing", "size"] (defScope S_is_tuple_of) := ⟨rfl, rfl, rfl, by decide +kernel, rfl, by decide +kernel, by decide +kernel⟩
theorem w_is_tuple_of (bt : Blt mg) (F : Fun K "is_tuple_of" "is_tuple_of" S_is_tuple_of f fd) (b : Binds K fd ["thing", "size"] []) (hm : mg "is_tuple_of" = some (.ref f)) : FnV P w K mg base "is_tuple_of" 1 m_is_tuple_of :=
  fnv_run (k := 0) F sc_is_tuple_of hm b fun n cdv A outer s H E hr =>
    vss_one (vs_ret (ve_and (ve_isi (ve_var 0) (by rfl) bt.isinstance (by rfl) bt.tuple bo_tuple) (ve_one (ve_cmp (ov_eq (hr.mono (Nat.zero_le _))) (ve_lenv (i := 0) (by rfl) bt.len) (ve_var 1) (by rfl)))))

/-! ### is_fraction -/
abbrev S_is_fraction : Stmt := topS 4
theorem sc_is_fraction : FnScope ["thing"] ["thing"] (defScope S_is_fraction) := ⟨rfl, rfl, rfl, by decide +kernel, rfl, by decide +kernel, by decide +kernel⟩
theorem w_is_fraction (bt : Blt mg) (F : Fun K "is_fraction" "is_fraction" S_is_fraction f fd) (b : Binds K fd ["thing"] []) (hm : mg "is_fraction" = some (.ref f)) (c_is_tuple_of : FnV P w K mg base "is_tuple_of" 1 m_is_tuple_of) (c_is_integer : FnV P w K mg base "is_integer" 1 m_is_integer) (c_common : FnV P w K mg base "common" 1 m_common) : FnV P w K mg base "is_fraction" 2 m_is_fraction :=
  fnv_run (k := 1) F sc_is_fraction hm b fun n cdv A outer s H E hr =>
    vss_cons (vs_if ((vw_or (vb_not (vb_val (ve_call (c_is_tuple_of.mono (by decide)) hr body_takes (vds_cons (ve_var 0) (vds_cons (ve_int) (vds_nil)))))) (vw_or (vb_not (vb_val (ve_call (c_is_integer.mono (by decide)) hr body_takes (vds_cons (ve_ixv (i := 0) (ve_int)) (vds_nil))))) (vw_or1 (vb_not (vb_val (ve_call (c_is_integer.mono (by decide)) hr body_takes (vds_cons (ve_ixv (i := 0) (ve_int)) (vds_nil)))))))).vb) (vss_one (vs_ret (ve_bl))) (vss_nil)) (vss_one (vs_ret (ve_and (ve_cmp ov_gt (ve_ixv (i := 0) (ve_int)) (ve_int) (by rfl)) (ve_one (ve_cmp (ov_eq (hr.mono (Nat.zero_le _))) (ve_call (c_common.mono (by decide)) hr body_takes (vds_cons (ve_callB cv_abs (by rfl) bt.abs bo_abs (vds_cons (ve_ixv (i := 0) (ve_int)) (vds_nil))) (vds_cons (ve_ixv (i := 0) (ve_int)) (vds_nil)))) (ve_int) (by rfl))))))

/-! ### reduced -/
abbrev S_reduced : Stmt := topS 7
theorem sc_reduced : FnScope ["num", "den", "divisor"] ["num", "den"] (defScope S_reduced) := ⟨rfl, rfl, rfl, by decide +kernel, rfl, by decide +kernel, by decide +kernel⟩
theorem w_reduced (bt : Blt mg) (F : Fun K "reduced" "reduced" S_reduced f fd) (b : Binds K fd ["num", "den"] []) (hm : mg "reduced" = some (.ref f)) (c_common : FnV P w K mg base "common" 1 m_common) : FnV P w K mg base "reduced" 2 m_reduced :=
  fnv_run (k := 1) F sc_reduced hm b fun n cdv A outer s H E hr =>
    vss_cons (vs_set (i := 2) sc_reduced.nd (ve_call (c_common.mono (by decide)) hr body_takes (vds_cons (ve_callB cv_abs (by rfl) bt.abs bo_abs (vds_cons (ve_var 0) (vds_nil))) (vds_cons (ve_callB cv_abs (by rfl) bt.abs bo_abs (vds_cons (ve_var 1) (vds_nil))) (vds_nil))))) (vss_cons (vs_if (vb_cmp ov_lt (ve_var 1) (ve_int) (by rfl)) (vss_one (vs_set (i := 2) sc_reduced.nd (ve_bin ov_sub (ve_int) (ve_var 2)))) (vss_nil)) (vss_one (vs_ret (ve_tup (vds_cons (ve_bin ov_fdiv (ve_var 0) (ve_var 2)) (vds_cons (ve_bin ov_fdiv (ve_var 1) (ve_var 2)) (vds_nil)))))))

/-! ### added -/
abbrev S_added : Stmt := topS 8
theorem sc_added : FnScope ["parts", "found", "num", "den"] ["parts"] (defScope S_added) := ⟨rfl, rfl, rfl, by decide +kernel, rfl, by decide +kernel, by decide +kernel⟩
theorem w_added (bt : Blt mg) (F : Fun K "added" "added" S_added f fd) (b : Binds K fd ["parts"] []) (hm : mg "added" = some (.ref f)) (c_reduced : FnV P w K mg base "reduced" 2 m_reduced) (k_ZERO : GC K mg "ZERO" (.tuple [(.int 0), (.int 1)])) : FnV P w K mg base "added" 3 m_added :=
  fnv_run (k := 2) F sc_added hm b fun n cdv A outer s H E hr =>
    vss_cons (vs_set (i := 1) sc_added.nd (ve_gc k_ZERO)) (vss_cons (vs_for (vs := [2, 3]) rfl (passes_of rfl) (vi_seq (ve_var 0)) (vg_tup rfl (vgs_cons (vg_nm (i := 2) sc_added.nd) (vgs_cons (vg_nm (i := 3) sc_added.nd) (vgs_nil))) (pCons_len (pCons_len pNil_len))) (vss_one (vs_set (i := 1) sc_added.nd (ve_call (c_reduced.mono (by decide)) hr body_takes (vds_cons (ve_bin ov_add (ve_bin ov_mul (ve_ixv (i := 1) (ve_int)) (ve_var 3)) (ve_bin ov_mul (ve_var 2) (ve_ixv (i := 1) (ve_int)))) (vds_cons (ve_bin ov_mul (ve_ixv (i := 1) (ve_int)) (ve_var 3)) (vds_nil))))))) (vss_one (vs_retv 1)))

/-! ### less -/
abbrev S_less : Stmt := topS 9
theorem sc_less : FnScope ["one", "other"] ["one", "other"] (defScope S_less) := ⟨rfl, rfl, rfl, by decide +kernel, rfl, by decide +kernel, by decide +kernel⟩
theorem w_less (bt : Blt mg) (F : Fun K "less" "less" S_less f fd) (b : Binds K fd ["one", "other"] []) (hm : mg "less" = some (.ref f)) (c_reduced : FnV P w K mg base "reduced" 2 m_reduced) : FnV P w K mg base "less" 3 m_less :=
  fnv_run (k := 2) F sc_less hm b fun n cdv A outer s H E hr =>
    vss_one (vs_ret (ve_call (c_reduced.mono (by decide)) hr body_takes (vds_cons (ve_bin ov_sub (ve_bin ov_mul (ve_ixv (i := 0) (ve_int)) (ve_ixv (i := 1) (ve_int))) (ve_bin ov_mul (ve_ixv (i := 1) (ve_int)) (ve_ixv (i := 0) (ve_int)))) (vds_cons (ve_bin ov_mul (ve_ixv (i := 0) (ve_int)) (ve_ixv (i := 1) (ve_int))) (vds_nil)))))

/-! ### compared -/
abbrev S_compared : Stmt := topS 10
theorem sc_compared : FnScope ["one", "other", "left", "right"] ["one", "other"] (defScope S_compared) := ⟨rfl, rfl, rfl, by decide +kernel, rfl, by decide +kernel, by decide +kernel⟩
theorem w_compared (bt : Blt mg) (F : Fun K "compared" "compared" S_compared f fd) (b : Binds K fd ["one", "other"] []) (hm : mg "compared" = some (.ref f)) : FnV P w K mg base "compared" 1 m_compared :=
  fnv_run (k := 0) F sc_compared hm b fun n cdv A outer s H E hr =>
    vss_cons (vs_par2 (i := 2) (j := 3) rfl sc_compared.nd (vls_cons (ve_bin ov_mul (ve_ixv (i := 0) (ve_int)) (ve_ixv (i := 1) (ve_int))) (vls_cons (ve_bin ov_mul (ve_ixv (i := 1) (ve_int)) (ve_ixv (i := 0) (ve_int))) (vls_nil))) (by rfl) rfl rfl) (vss_one (vs_ret (ve_bin ov_sub (ve_callTy cv_int (by rfl) bt.int bo_int (vds_cons (ve_cmp ov_gt (ve_var 2) (ve_var 3) (by rfl)) (vds_nil))) (ve_callTy cv_int (by rfl) bt.int bo_int (vds_cons (ve_cmp ov_lt (ve_var 2) (ve_var 3) (by rfl)) (vds_nil))))))

/-! ### least_of -/
abbrev S_least_of : Stmt := topS 11
theorem sc_least_of : FnScope ["parts", "found", "one"] ["parts"] (defScope S_least_of) := ⟨rfl, rfl, rfl, by decide +kernel, rfl, by decide +kernel, by decide +kernel⟩
theorem w_least_of (bt : Blt mg) (F : Fun K "least_of" "least_of" S_least_of f fd) (b : Binds K fd ["parts"] []) (hm : mg "least_of" = some (.ref f)) (c_compared : FnV P w K mg base "compared" 1 m_compared) : FnV P w K mg base "least_of" 2 m_least_of :=
  fnv_run (k := 1) F sc_least_of hm b fun n cdv A outer s H E hr =>
    vss_cons (vs_set (i := 1) sc_least_of.nd (ve_ixv (i := 0) (ve_int))) (vss_cons (vs_for (vs := [2]) rfl (passes_of rfl) (vi_seq (ve_slice (ve_var 0) (vo_some (ve_int)) (vo_none))) (vg_nm (i := 2) sc_least_of.nd) (vss_one (vs_set (i := 1) sc_least_of.nd (ve_if (vb_cmp ov_lt (ve_call (c_compared.mono (by decide)) hr body_takes (vds_cons (ve_var 2) (vds_cons (ve_var 1) (vds_nil)))) (ve_int) (by rfl)) (ve_var 2) (ve_var 1))))) (vss_one (vs_retv 1)))

/-! ### sign_patterns -/
abbrev S_sign_patterns : Stmt := topS 14
theorem sc_sign_patterns : FnScope ["many", "found", "place", "signs", "pattern", "sign"] ["many"] (defScope S_sign_patterns) := ⟨rfl, rfl, rfl, by decide +kernel, rfl, by decide +kernel, by decide +kernel⟩
theorem w_sign_patterns (bt : Blt mg) (F : Fun K "sign_patterns" "sign_patterns" S_sign_patterns f fd) (b : Binds K fd ["many"] []) (hm : mg "sign_patterns" = some (.ref f)) : FnV P w K mg base "sign_patterns" 1 m_sign_patterns :=
  fnv_run (k := 0) F sc_sign_patterns hm b fun n cdv A outer s H E hr =>
    vss_cons (vs_set (i := 1) sc_sign_patterns.nd (ve_lst (vds_cons (ve_tup (vds_nil)) (vds_nil)))) (vss_cons (vs_for (vs := [2]) rfl (passes_of rfl) (wi_range1 (by rfl) bt.range (vds_cons (ve_var 0) (vds_nil))) (vg_nm (i := 2) sc_sign_patterns.nd) (vss_cons (vs_set (i := 3) sc_sign_patterns.nd (ve_if (vb_cmp (ov_eq (hr.mono (Nat.zero_le _))) (ve_var 2) (ve_int) (by rfl)) (ve_tup (vds_cons (ve_int) (vds_nil))) (ve_tup (vds_cons (ve_int) (vds_cons (ve_un uv_neg (ve_int)) (vds_nil)))))) (vss_one (vs_setLc2 (i := 1) (vs1 := [5]) [("pattern", 4), ("sign", 5)] rfl sc_sign_patterns.nd (sw_true (by rfl) (by rfl) (by rfl) (by rfl)) rfl (blkOk_by (by rfl)) (by decide) (vi_seq (ve_var 1)) (fun s H C cl fp => vg_nm (i := 4) sc_sign_patterns.nd) (fun s H C cl fp => vts_nil) (fun s H C cl fp => wi2_seq (ve_var 3)) (fun s H C cl fp => vg_nm (i := 5) sc_sign_patterns.nd) (fun s H C cl fp => vts_nil) (fun s H C cl fp => ve_tup (vds_star (ve_var 4) (vds_cons (ve_var 5) (vds_nil)))))))) (vss_one (vs_retv 1)))

/-! ### signed_sum -/
abbrev S_signed_sum : Stmt := topS 15
theorem sc_signed_sum : FnScope ["amounts", "signs", "sign", "num", "den"] ["amounts", "signs"] (defScope S_signed_sum) := ⟨rfl, rfl, rfl, by decide +kernel, rfl, by decide +kernel, by decide +kernel⟩
theorem w_signed_sum (bt : Blt mg) (F : Fun K "signed_sum" "signed_sum" S_signed_sum f fd) (b : Binds K fd ["amounts", "signs"] []) (hm : mg "signed_sum" = some (.ref f)) (c_added : FnV P w K mg base "added" 3 m_added) : FnV P w K mg base "signed_sum" 4 m_signed_sum :=
  fnv_run (k := 3) F sc_signed_sum hm b fun n cdv A outer s H E hr =>
    vss_one (vs_ret (ve_call (c_added.mono (by decide)) hr body_takes (vds_cons (ve_lc [("sign", 2), ("num", 3), ("den", 4)] rfl sc_signed_sum.nd (blkOk_by (by rfl)) (wi_zip (by rfl) bt.zip (vds_cons (ve_var 0) (vds_cons (ve_var 1) (vds_nil)))) (fun s H C cl fp => vg_tup rfl (vgs_cons (vg_tup rfl (vgs_cons (vg_nm (i := 3) sc_signed_sum.nd) (vgs_cons (vg_nm (i := 4) sc_signed_sum.nd) (vgs_nil))) (pCons_len (pCons_len pNil_len))) (vgs_cons (vg_nm (i := 2) sc_signed_sum.nd) (vgs_nil))) (pCons_len (pCons_len pNil_len))) (fun s H C cl fp => vts_nil) (fun s H C cl fp => ve_tup (vds_cons (ve_bin ov_mul2 (ve_var 3) (ve_var 2)) (vds_cons (ve_var 4) (vds_nil))))) (vds_nil))))

/-! ### raised -/
abbrev S_raised : Stmt := topS 16
theorem sc_raised : FnScope ["spans", "signs", "amounts", "lacking", "place", "least", "greatest", "step", "span", "sign"] ["spans", "signs"] (defScope S_raised) := ⟨rfl, rfl, rfl, by decide +kernel, rfl, by decide +kernel, by decide +kernel⟩
theorem w_raised (bt : Blt mg) (F : Fun K "raised" "raised" S_raised f fd) (b : Binds K fd ["spans", "signs"] []) (hm : mg "raised" = some (.ref f)) (c_less : FnV P w K mg base "less" 3 m_less) (c_signed_sum : FnV P w K mg base "signed_sum" 4 m_signed_sum) (c_compared : FnV P w K mg base "compared" 1 m_compared) (c_least_of : FnV P w K mg base "least_of" 2 m_least_of) (c_added : FnV P w K mg base "added" 3 m_added) (k_NOTHING : GC K mg "NOTHING" (.tuple [(.int 0), (.int 1)])) : FnV P w K mg base "raised" 5 m_raised :=
  fnv_run (k := 4) F sc_raised hm b fun n cdv A outer s H E hr =>
    vss_cons (vs_setLc (i := 2) [("span", 8), ("sign", 9)] rfl sc_raised.nd (sw_true (by rfl) (by rfl) (by rfl) (by rfl)) rfl (blkOk_by (by rfl)) (wi_zip (by rfl) bt.zip (vds_cons (ve_var 0) (vds_cons (ve_var 1) (vds_nil)))) (fun s H C cl fp => vg_tup rfl (vgs_cons (vg_nm (i := 8) sc_raised.nd) (vgs_cons (vg_nm (i := 9) sc_raised.nd) (vgs_nil))) (pCons_len (pCons_len pNil_len))) (fun s H C cl fp => vts_nil) (fun s H C cl fp => ve_if (vb_cmp (ov_eq (hr.mono (Nat.zero_le _))) (ve_var 9) (ve_int) (by rfl)) (ve_ixv (i := 8) (ve_int)) (ve_ixv (i := 8) (ve_int)))) (vss_cons (vs_set (i := 3) sc_raised.nd (ve_call (c_less.mono (by decide)) hr body_takes (vds_cons (ve_gc k_NOTHING) (vds_cons (ve_callL1 (c_signed_sum.mono (by decide)) hr body_takes (vas_lend 2 (vas_lend 1 (vas_nil)))) (vds_nil))))) (vss_cons (vs_if (vb_cmp ov_lt (ve_call (c_compared.mono (by decide)) hr body_takes (vds_cons (ve_var 3) (vds_cons (ve_gc k_NOTHING) (vds_nil)))) (ve_int) (by rfl)) (vss_one (vs_ret (ve_non))) (vss_nil)) (vss_cons (vs_for (vs := [4, 5, 6]) rfl (passes_of rfl) (wi_enum (by rfl) bt.enumerate (vds_cons (ve_var 0) (vds_nil))) (vg_tup rfl (vgs_cons (vg_nm (i := 4) sc_raised.nd) (vgs_cons (vg_tup rfl (vgs_cons (vg_nm (i := 5) sc_raised.nd) (vgs_cons (vg_nm (i := 6) sc_raised.nd) (vgs_nil))) (pCons_len (pCons_len pNil_len))) (vgs_nil))) (pCons_len (pCons_len pNil_len))) (vss_cons (vs_set (i := 7) sc_raised.nd (ve_call (c_least_of.mono (by decide)) hr body_takes (vds_cons (ve_lst (vds_cons (ve_var 3) (vds_cons (ve_call (c_less.mono (by decide)) hr body_takes (vds_cons (ve_var 6) (vds_cons (ve_var 5) (vds_nil)))) (vds_nil)))) (vds_nil)))) (vss_cons (vs_store (i := 2) (ve_if (vb_cmp (ov_eq (hr.mono (Nat.zero_le _))) (ve_ixv (i := 1) (ve_var 4)) (ve_int) (by rfl)) (ve_call (c_added.mono (by decide)) hr body_takes (vds_cons (ve_lst (vds_cons (ve_ixv (i := 2) (ve_var 4)) (vds_cons (ve_var 7) (vds_nil)))) (vds_nil))) (ve_call (c_less.mono (by decide)) hr body_takes (vds_cons (ve_ixv (i := 2) (ve_var 4)) (vds_cons (ve_var 7) (vds_nil))))) (ve_var 4)) (vss_one (vs_set (i := 3) sc_raised.nd (ve_call (c_less.mono (by decide)) hr body_takes (vds_cons (ve_var 3) (vds_cons (ve_var 7) (vds_nil))))))))) (vss_one (vs_ret (ve_if (vb_cmp (ov_eq (hr.mono (Nat.zero_le _))) (ve_var 3) (ve_gc k_NOTHING) (by rfl)) (ve_callTy cv_tuple (by rfl) bt.tuple bo_tuple (vds_cons (ve_var 2) (vds_nil))) (ve_non)))))))

/-! ### signing -/
abbrev S_signing : Stmt := topS 17
theorem sc_signing : FnScope ["spans", "signs", "amounts"] ["spans"] (defScope S_signing) := ⟨rfl, rfl, rfl, by decide +kernel, rfl, by decide +kernel, by decide +kernel⟩
theorem w_signing (bt : Blt mg) (F : Fun K "signing" "signing" S_signing f fd) (b : Binds K fd ["spans"] []) (hm : mg "signing" = some (.ref f)) (c_sign_patterns : FnV P w K mg base "sign_patterns" 1 m_sign_patterns) (c_raised : FnV P w K mg base "raised" 5 m_raised) : FnV P w K mg base "signing" 6 m_signing :=
  fnv_run (k := 5) F sc_signing hm b fun n cdv A outer s H E hr =>
    vss_cons (vs_for (vs := [1]) rfl (passes_of rfl) (vi_seq (ve_call (c_sign_patterns.mono (by decide)) hr body_takes (vds_cons (ve_lenv (i := 0) (by rfl) bt.len) (vds_nil)))) (vg_nm (i := 1) sc_signing.nd) (vss_cons (vs_set (i := 2) sc_signing.nd (ve_call (c_raised.mono (by decide)) hr body_takes (vds_cons (ve_var 0) (vds_cons (ve_var 1) (vds_nil))))) (vss_one (vs_if (vb_cmp ov_isnt (ve_var 2) (ve_non) (by rfl)) (vss_one (vs_ret (ve_tup (vds_cons (ve_var 2) (vds_cons (ve_var 1) (vds_nil)))))) (vss_nil))))) (vss_one (vs_ret (ve_non)))

/-! ### is_signing -/
abbrev S_is_signing : Stmt := topS 18
theorem sc_is_signing : FnScope ["spans", "thing", "amounts", "signs", "amount", "least", "greatest", "sign", "part"] ["spans", "thing"] (defScope S_is_signing) := ⟨rfl, rfl, rfl, by decide +kernel, rfl, by decide +kernel, by decide +kernel⟩
theorem w_is_signing (bt : Blt mg) (F : Fun K "is_signing" "is_signing" S_is_signing f fd) (b : Binds K fd ["spans", "thing"] []) (hm : mg "is_signing" = some (.ref f)) (c_signed_sum : FnV P w K mg base "signed_sum" 4 m_signed_sum) (c_is_fraction : FnV P w K mg base "is_fraction" 2 m_is_fraction) (c_compared : FnV P w K mg base "compared" 1 m_compared) (c_is_integer : FnV P w K mg base "is_integer" 1 m_is_integer) (k_NOTHING : GC K mg "NOTHING" (.tuple [(.int 0), (.int 1)])) : FnV P w K mg base "is_signing" 5 m_is_signing :=
  fnv_run (k := 4) F sc_is_signing hm b fun n cdv A outer s H E hr =>
    vss_cons (vs_if ((vw_or (vb_not (vb_val (ve_isi (ve_var 1) (by rfl) bt.isinstance (by rfl) bt.tuple bo_tuple))) (vw_or (vb_cmp (ov_ne (hr.mono (Nat.zero_le _))) (ve_lenv (i := 1) (by rfl) bt.len) (ve_int) (by rfl)) (vw_or1 (vb_not (vb_val (ve_callB (cv_all rfl) (by rfl) bt.all bo_all (vds_cons (ve_lc [("part", 8)] rfl sc_is_signing.nd (blkOk_by (by rfl)) (vi_seq (ve_var 1)) (fun s H C cl fp => vg_nm (i := 8) sc_is_signing.nd) (fun s H C cl fp => vts_nil) (fun s H C cl fp => ve_isi (ve_var 8) (by rfl) bt.isinstance (by rfl) bt.tuple bo_tuple)) (vds_nil)))))))).vb) (vss_one (vs_ret (ve_bl))) (vss_nil)) (vss_cons (vs_asg (vs := [2, 3]) (ve_var 1) (vg_tup rfl (vgs_cons (vg_nm (i := 2) sc_is_signing.nd) (vgs_cons (vg_nm (i := 3) sc_is_signing.nd) (vgs_nil))) (pCons_len (pCons_len pNil_len)))) (vss_cons (vs_if ((vw_or (vb_cmp (ov_ne (hr.mono (Nat.zero_le _))) (ve_lenv (i := 2) (by rfl) bt.len) (ve_lenv (i := 0) (by rfl) bt.len) (by rfl)) (vw_or1 (vb_cmp (ov_ne (hr.mono (Nat.zero_le _))) (ve_lenv (i := 3) (by rfl) bt.len) (ve_lenv (i := 0) (by rfl) bt.len) (by rfl)))).vb) (vss_one (vs_ret (ve_bl))) (vss_nil)) (vss_cons (vs_if (vb_not (vb_val (ve_callB (cv_all rfl) (by rfl) bt.all bo_all (vds_cons (ve_lc [("sign", 7)] rfl sc_is_signing.nd (blkOk_by (by rfl)) (vi_seq (ve_var 3)) (fun s H C cl fp => vg_nm (i := 7) sc_is_signing.nd) (fun s H C cl fp => vts_nil) (fun s H C cl fp => ve_and (ve_call (c_is_integer.mono (by decide)) hr tk0 (vds_cons (ve_var 7) (vds_nil))) (ve_one (ve_cmp (ov_in (hr.mono (Nat.zero_le _))) (ve_var 7) (ve_tup (vds_cons (ve_int) (vds_cons (ve_un uv_neg (ve_int)) (vds_nil)))) (by rfl))))) (vds_nil))))) (vss_one (vs_ret (ve_bl))) (vss_nil)) (vss_cons (vs_for (vs := [4, 5, 6]) rfl (passes_of rfl) (wi_zip (by rfl) bt.zip (vds_cons (ve_var 2) (vds_cons (ve_var 0) (vds_nil)))) (vg_tup rfl (vgs_cons (vg_nm (i := 4) sc_is_signing.nd) (vgs_cons (vg_tup rfl (vgs_cons (vg_nm (i := 5) sc_is_signing.nd) (vgs_cons (vg_nm (i := 6) sc_is_signing.nd) (vgs_nil))) (pCons_len (pCons_len pNil_len))) (vgs_nil))) (pCons_len (pCons_len pNil_len))) (vss_one (vs_if ((vw_or (vb_not (vb_val (ve_call (c_is_fraction.mono (by decide)) hr body_takes (vds_cons (ve_var 4) (vds_nil))))) (vw_or (vb_cmp ov_lt (ve_call (c_compared.mono (by decide)) hr body_takes (vds_cons (ve_var 4) (vds_cons (ve_var 5) (vds_nil)))) (ve_int) (by rfl)) (vw_or1 (vb_cmp ov_gt (ve_call (c_compared.mono (by decide)) hr body_takes (vds_cons (ve_var 4) (vds_cons (ve_var 6) (vds_nil)))) (ve_int) (by rfl))))).vb) (vss_one (vs_ret (ve_bl))) (vss_nil)))) (vss_one (vs_ret (ve_cmp (ov_eq (hr.mono (Nat.zero_le _))) (ve_call (c_signed_sum.mono (by decide)) hr body_takes (vds_cons (ve_var 2) (vds_cons (ve_var 3) (vds_nil)))) (ve_gc k_NOTHING) (by rfl))))))))

/-! ### closes -/
abbrev S_closes : Stmt := topS 20
theorem sc_closes : FnScope ["spans", "total", "least", "greatest"] ["spans"] (defScope S_closes) := ⟨rfl, rfl, rfl, by decide +kernel, rfl, by decide +kernel, by decide +kernel⟩
theorem w_closes (bt : Blt mg) (F : Fun K "closes" "closes" S_closes f fd) (b : Binds K fd ["spans"] []) (hm : mg "closes" = some (.ref f)) (c_added : FnV P w K mg base "added" 3 m_added) (c_compared : FnV P w K mg base "compared" 1 m_compared) (c_less : FnV P w K mg base "less" 3 m_less) : FnV P w K mg base "closes" 4 m_closes :=
  fnv_run (k := 3) F sc_closes hm b fun n cdv A outer s H E hr =>
    vss_cons (vs_set (i := 1) sc_closes.nd (ve_call (c_added.mono (by decide)) hr body_takes (vds_cons (ve_lc [("least", 2), ("greatest", 3)] rfl sc_closes.nd (blkOk_by (by rfl)) (vi_seq (ve_var 0)) (fun s H C cl fp => vg_tup rfl (vgs_cons (vg_nm (i := 2) sc_closes.nd) (vgs_cons (vg_nm (i := 3) sc_closes.nd) (vgs_nil))) (pCons_len (pCons_len pNil_len))) (fun s H C cl fp => vts_nil) (fun s H C cl fp => ve_var 3)) (vds_nil)))) (vss_one (vs_ret (ve_callB (cv_all rfl) (by rfl) bt.all bo_all (vds_cons (ve_lc [("least", 2), ("greatest", 3)] rfl sc_closes.nd (blkOk_by (by rfl)) (vi_seq (ve_var 0)) (fun s H C cl fp => vg_tup rfl (vgs_cons (vg_nm (i := 2) sc_closes.nd) (vgs_cons (vg_nm (i := 3) sc_closes.nd) (vgs_nil))) (pCons_len (pCons_len pNil_len))) (fun s H C cl fp => vts_nil) (fun s H C cl fp => ve_cmp ov_le (ve_call (c_compared.mono (by decide)) hr tk0 (vds_cons (ve_var 2) (vds_cons (ve_call (c_less.mono (by decide)) hr tk0 (vds_cons (ve_var 1) (vds_cons (ve_var 3) (vds_nil)))) (vds_nil)))) (ve_int) (by rfl))) (vds_nil)))))

/-! ### _law_bag -/
abbrev S__law_bag : Stmt := topS 22
theorem sc__law_bag : FnScope ["script", "cell"] ["script"] (defScope S__law_bag) := ⟨rfl, rfl, rfl, by decide +kernel, rfl, by decide +kernel, by decide +kernel⟩
theorem w__law_bag (bt : Blt mg) (F : Fun K "_law_bag" "_law_bag" S__law_bag f fd) (b : Binds K fd ["script"] []) (hm : mg "_law_bag" = some (.ref f)) : FnV P w K mg base "_law_bag" 1 m__law_bag :=
  fnv_run (k := 0) F sc__law_bag hm b fun n cdv A outer s H E hr =>
    vss_one (vs_ret (ve_lst (vds_cons (ve_int) (vds_cons (ve_int) (vds_cons (ve_int) (vds_cons (ve_lc [("cell", 1)] rfl sc__law_bag.nd (blkOk_by (by rfl)) (vi_seq (ve_slice (ve_var 0) (vo_none) (vo_some (ve_int)))) (fun s H C cl fp => vg_nm (i := 1) sc__law_bag.nd) (fun s H C cl fp => vts_nil) (fun s H C cl fp => ve_callB cv_abs (by rfl) bt.abs bo_abs (vds_cons (ve_var 1) (vds_nil)))) (vds_nil)))))))

/-! ### _law_take -/
abbrev S__law_take : Stmt := topS 23
theorem sc__law_take : FnScope ["bag", "many", "cell", "stirred", "value", "begin", "second"] ["bag", "many"] (defScope S__law_take) := ⟨rfl, rfl, rfl, by decide +kernel, rfl, by decide +kernel, by decide +kernel⟩
theorem w__law_take (bt : Blt mg) (F : Fun K "_law_take" "_law_take" S__law_take f fd) (b : Binds K fd ["bag", "many"] []) (hm : mg "_law_take" = some (.ref f)) : FnB P w K mg base "_law_take" 1 m__law_take :=
  fnb_run (k := 0) F sc__law_take hm b fun n cdv A outer s H E hr =>
    vss_cons (vs_if (vb_cmp (ov_eq (hr.mono (Nat.zero_le _))) (ve_ixv (i := 0) (ve_int)) (ve_int) (by rfl)) (vss_cons (vs_set (i := 2) sc__law_take.nd (ve_ix iv_ix (ve_bin ov_add (ve_slice (ve_ixv (i := 0) (ve_int)) (vo_some (ve_ixv (i := 0) (ve_int))) (vo_none)) (ve_lst (vds_cons (ve_int) (vds_nil)))) (ve_int))) (vss_cons (vs_augS (i := 0) ip_add (ve_int) (ve_int)) (vss_cons (vs_if (vb_cmp ov_ge (ve_var 2) (ve_bin ov_pow (ve_int) (ve_int)) (by rfl)) (vss_one (vs_store (i := 0) (ve_var 2) (ve_int))) (vss_nil)) (vss_cons (vs_set (i := 3) sc__law_take.nd (ve_bin ov_add (ve_bin ov_add (ve_bin ov_mul (ve_ixv (i := 0) (ve_int)) (ve_int)) (ve_bin ov_mod (ve_callTy cv_int (by rfl) bt.int bo_int (vds_cons (ve_var 2) (vds_nil))) (ve_int))) (ve_bin ov_mul (ve_int) (ve_ixv (i := 0) (ve_int))))) (vss_one (vs_store (i := 0) (ve_bin ov_mod (ve_callTy cv_int (by rfl) bt.int bo_int (vds_cons (ve_var 3) (vds_nil))) (ve_int)) (ve_int))))))) (vss_nil)) (vss_cons (vs_if (vb_cmp ov_gt (ve_ixv (i := 0) (ve_int)) (ve_int) (by rfl)) (vss_cons (vs_set (i := 4) sc__law_take.nd (ve_bin ov_mod (ve_callTy cv_int (by rfl) bt.int bo_int (vds_cons (ve_ixv (i := 0) (ve_int)) (vds_nil))) (ve_var 1))) (vss_cons (vs_store (i := 0) (ve_bin ov_fdiv (ve_callTy cv_int (by rfl) bt.int bo_int (vds_cons (ve_ixv (i := 0) (ve_int)) (vds_nil))) (ve_var 1)) (ve_int)) (vss_one (vs_retv 4)))) (vss_nil)) (vss_cons (vs_set (i := 5) sc__law_take.nd (ve_bin ov_mod (ve_callTy cv_int (by rfl) bt.int bo_int (vds_cons (ve_bin ov_mul (ve_bin ov_add (ve_ixv (i := 0) (ve_int)) (ve_int)) (ve_int)) (vds_nil))) (ve_int))) (vss_cons (vs_set (i := 6) sc__law_take.nd (ve_bin ov_mod (ve_callTy cv_int (by rfl) bt.int bo_int (vds_cons (ve_bin ov_mul (ve_bin ov_mod (ve_callTy cv_int (by rfl) bt.int bo_int (vds_cons (ve_bin ov_mul (ve_var 5) (ve_var 5)) (vds_nil))) (ve_int)) (ve_int)) (vds_nil))) (ve_int))) (vss_one (vs_ret (ve_bin ov_mod (ve_callTy cv_int (by rfl) bt.int bo_int (vds_cons (ve_bin ov_fdiv (ve_var 6) (ve_int)) (vds_nil))) (ve_var 1)))))))

/-! ### _law_one -/
abbrev S__law_one : Stmt := topS 24
theorem sc__law_one : FnScope ["bag", "things"] ["bag", "things"] (defScope S__law_one) := ⟨rfl, rfl, rfl, by decide +kernel, rfl, by decide +kernel, by decide +kernel⟩
theorem w__law_one (bt : Blt mg) (F : Fun K "_law_one" "_law_one" S__law_one f fd) (b : Binds K fd ["bag", "things"] []) (hm : mg "_law_one" = some (.ref f)) (c__law_take : FnB P w K mg base "_law_take" 1 m__law_take) : FnB P w K mg base "_law_one" 2 m__law_one :=
  fnb_run (k := 1) F sc__law_one hm b fun n cdv A outer s H E hr =>
    vss_one (vs_ret (ve_ixv (i := 1) (ve_callBag (i := 0) (c__law_take.mono (by decide)) hr body_takes (vds_cons (ve_lenv (i := 1) (by rfl) bt.len) (vds_nil)))))

/-! ### _law_alike -/
abbrev S__law_alike : Stmt := topS 25
theorem sc__law_alike : FnScope ["found", "due"] ["found", "due"] (defScope S__law_alike) := ⟨rfl, rfl, rfl, by decide +kernel, rfl, by decide +kernel, by decide +kernel⟩
theorem w__law_alike (bt : Blt mg) (F : Fun K "_law_alike" "_law_alike" S__law_alike f fd) (b : Binds K fd ["found", "due"] []) (hm : mg "_law_alike" = some (.ref f)) : FnV P w K mg base "_law_alike" 1 m__law_alike :=
  fnv_run (k := 0) F sc__law_alike hm b fun n cdv A outer s H E hr =>
    vss_one (vs_ret (ve_and (ve_cmp (ov_eq (hr.mono (Nat.zero_le _))) (ve_var 0) (ve_var 1) (by rfl)) (ve_one (ve_cmp (ov_eq (hr.mono (Nat.zero_le _))) (ve_callB (cv_repr (hr.mono (Nat.zero_le _))) (by rfl) bt.repr bo_repr (vds_cons (ve_var 0) (vds_nil))) (ve_callB (cv_repr (hr.mono (Nat.zero_le _))) (by rfl) bt.repr bo_repr (vds_cons (ve_var 1) (vds_nil))) (by rfl)))))

/-! ### _law_shared -/
abbrev S__law_shared : Stmt := topS 26
theorem sc__law_shared : FnScope ["one", "other"] ["one", "other"] (defScope S__law_shared) := ⟨rfl, rfl, rfl, by decide +kernel, rfl, by decide +kernel, by decide +kernel⟩
theorem w__law_shared (bt : Blt mg) (F : Fun K "_law_shared" "_law_shared" S__law_shared f fd) (b : Binds K fd ["one", "other"] []) (hm : mg "_law_shared" = some (.ref f)) : FnV P w K mg base "_law_shared" 1 m__law_shared :=
  fnv_run (k := 0) F sc__law_shared hm b fun n cdv A outer s H E hr =>
    vss_cons (vs_par2 (i := 0) (j := 1) rfl sc__law_shared.nd (vls_cons (ve_callB cv_abs (by rfl) bt.abs bo_abs (vds_cons (ve_var 0) (vds_nil))) (vls_cons (ve_callB cv_abs (by rfl) bt.abs bo_abs (vds_cons (ve_var 1) (vds_nil))) (vls_nil))) (by rfl) rfl rfl) (vss_cons (vs_while n (passes_of rfl) (vb_cmp (ov_ne (hr.mono (Nat.zero_le _))) (ve_var 1) (ve_int) (by rfl)) (vss_one (vs_par2 (i := 0) (j := 1) rfl sc__law_shared.nd (vls_cons (ve_var 1) (vls_cons (ve_bin ov_mod (ve_callTy cv_int (by rfl) bt.int bo_int (vds_cons (ve_var 0) (vds_nil))) (ve_var 1)) (vls_nil))) (by rfl) rfl rfl))) (vss_one (vs_retv 0)))

/-! ### _law_ratio -/
abbrev S__law_ratio : Stmt := topS 27
theorem sc__law_ratio : FnScope ["num", "den", "by"] ["num", "den"] (defScope S__law_ratio) := ⟨rfl, rfl, rfl, by decide +kernel, rfl, by decide +kernel, by decide +kernel⟩
theorem w__law_ratio (bt : Blt mg) (F : Fun K "_law_ratio" "_law_ratio" S__law_ratio f fd) (b : Binds K fd ["num", "den"] []) (hm : mg "_law_ratio" = some (.ref f)) (c__law_shared : FnV P w K mg base "_law_shared" 1 m__law_shared) : FnV P w K mg base "_law_ratio" 2 m__law_ratio :=
  fnv_run (k := 1) F sc__law_ratio hm b fun n cdv A outer s H E hr =>
    vss_cons (vs_set (i := 2) sc__law_ratio.nd (ve_bin ov_mul (ve_call (c__law_shared.mono (by decide)) hr body_takes (vds_cons (ve_var 0) (vds_cons (ve_var 1) (vds_nil)))) (ve_if (vb_cmp ov_gt (ve_var 1) (ve_int) (by rfl)) (ve_int) (ve_un uv_neg (ve_int))))) (vss_one (vs_ret (ve_tup (vds_cons (ve_bin ov_fdiv (ve_callTy cv_int (by rfl) bt.int bo_int (vds_cons (ve_var 0) (vds_nil))) (ve_var 2)) (vds_cons (ve_bin ov_fdiv (ve_callTy cv_int (by rfl) bt.int bo_int (vds_cons (ve_var 1) (vds_nil))) (ve_var 2)) (vds_nil))))))

/-! ### _law_plus -/
abbrev S__law_plus : Stmt := topS 28
theorem sc__law_plus : FnScope ["parts", "num", "den", "part"] ["parts"] (defScope S__law_plus) := ⟨rfl, rfl, rfl, by decide +kernel, rfl, by decide +kernel, by decide +kernel⟩
theorem w__law_plus (bt : Blt mg) (F : Fun K "_law_plus" "_law_plus" S__law_plus f fd) (b : Binds K fd ["parts"] []) (hm : mg "_law_plus" = some (.ref f)) (c__law_ratio : FnV P w K mg base "_law_ratio" 2 m__law_ratio) : FnV P w K mg base "_law_plus" 3 m__law_plus :=
  fnv_run (k := 2) F sc__law_plus hm b fun n cdv A outer s H E hr =>
    vss_cons (vs_parN (is := [1, 2]) rfl (vns_cons (i := 1) sc__law_plus.nd (vns_cons (i := 2) sc__law_plus.nd (vns_nil))) (vls_cons (ve_int) (vls_cons (ve_int) (vls_nil)))) (vss_cons (vs_for (vs := [3]) rfl (passes_of rfl) (vi_seq (ve_var 0)) (vg_nm (i := 3) sc__law_plus.nd) (vss_one (vs_par2 (i := 1) (j := 2) rfl sc__law_plus.nd (vls_cons (ve_bin ov_add (ve_bin ov_mul (ve_var 1) (ve_ixv (i := 3) (ve_int))) (ve_bin ov_mul (ve_ixv (i := 3) (ve_int)) (ve_var 2))) (vls_cons (ve_bin ov_mul (ve_var 2) (ve_ixv (i := 3) (ve_int))) (vls_nil))) (by rfl) rfl rfl))) (vss_one (vs_ret (ve_call (c__law_ratio.mono (by decide)) hr body_takes (vds_cons (ve_var 1) (vds_cons (ve_var 2) (vds_nil)))))))

/-! ### _law_minus -/
abbrev S__law_minus : Stmt := topS 29
theorem sc__law_minus : FnScope ["one", "other"] ["one", "other"] (defScope S__law_minus) := ⟨rfl, rfl, rfl, by decide +kernel, rfl, by decide +kernel, by decide +kernel⟩
theorem w__law_minus (bt : Blt mg) (F : Fun K "_law_minus" "_law_minus" S__law_minus f fd) (b : Binds K fd ["one", "other"] []) (hm : mg "_law_minus" = some (.ref f)) (c__law_ratio : FnV P w K mg base "_law_ratio" 2 m__law_ratio) : FnV P w K mg base "_law_minus" 3 m__law_minus :=
  fnv_run (k := 2) F sc__law_minus hm b fun n cdv A outer s H E hr =>
    vss_one (vs_ret (ve_call (c__law_ratio.mono (by decide)) hr body_takes (vds_cons (ve_bin ov_sub (ve_bin ov_mul (ve_ixv (i := 0) (ve_int)) (ve_ixv (i := 1) (ve_int))) (ve_bin ov_mul (ve_ixv (i := 1) (ve_int)) (ve_ixv (i := 0) (ve_int)))) (vds_cons (ve_bin ov_mul (ve_ixv (i := 0) (ve_int)) (ve_ixv (i := 1) (ve_int))) (vds_nil)))))

/-! ### _law_by -/
abbrev S__law_by : Stmt := topS 30
theorem sc__law_by : FnScope ["one", "other"] ["one", "other"] (defScope S__law_by) := ⟨rfl, rfl, rfl, by decide +kernel, rfl, by decide +kernel, by decide +kernel⟩
theorem w__law_by (bt : Blt mg) (F : Fun K "_law_by" "_law_by" S__law_by f fd) (b : Binds K fd ["one", "other"] []) (hm : mg "_law_by" = some (.ref f)) (c__law_ratio : FnV P w K mg base "_law_ratio" 2 m__law_ratio) : FnV P w K mg base "_law_by" 3 m__law_by :=
  fnv_run (k := 2) F sc__law_by hm b fun n cdv A outer s H E hr =>
    vss_one (vs_ret (ve_call (c__law_ratio.mono (by decide)) hr body_takes (vds_cons (ve_bin ov_mul (ve_ixv (i := 0) (ve_int)) (ve_ixv (i := 1) (ve_int))) (vds_cons (ve_bin ov_mul (ve_ixv (i := 0) (ve_int)) (ve_ixv (i := 1) (ve_int))) (vds_nil)))))

/-! ### _law_below -/
abbrev S__law_below : Stmt := topS 31
theorem sc__law_below : FnScope ["one", "other"] ["one", "other"] (defScope S__law_below) := ⟨rfl, rfl, rfl, by decide +kernel, rfl, by decide +kernel, by decide +kernel⟩
theorem w__law_below (bt : Blt mg) (F : Fun K "_law_below" "_law_below" S__law_below f fd) (b : Binds K fd ["one", "other"] []) (hm : mg "_law_below" = some (.ref f)) : FnV P w K mg base "_law_below" 1 m__law_below :=
  fnv_run (k := 0) F sc__law_below hm b fun n cdv A outer s H E hr =>
    vss_one (vs_ret (ve_cmp ov_lt (ve_bin ov_mul (ve_ixv (i := 0) (ve_int)) (ve_ixv (i := 1) (ve_int))) (ve_bin ov_mul (ve_ixv (i := 1) (ve_int)) (ve_ixv (i := 0) (ve_int))) (by rfl)))

/-! ### _law_integer -/
abbrev S__law_integer : Stmt := topS 32
theorem sc__law_integer : FnScope ["thing"] ["thing"] (defScope S__law_integer) := ⟨rfl, rfl, rfl, by decide +kernel, rfl, by decide +kernel, by decide +kernel⟩
theorem w__law_integer (bt : Blt mg) (F : Fun K "_law_integer" "_law_integer" S__law_integer f fd) (b : Binds K fd ["thing"] []) (hm : mg "_law_integer" = some (.ref f)) : FnV P w K mg base "_law_integer" 1 m__law_integer :=
  fnv_run (k := 0) F sc__law_integer hm b fun n cdv A outer s H E hr =>
    vss_one (vs_ret (ve_and (ve_isi (ve_var 0) (by rfl) bt.isinstance (by rfl) bt.int bo_int) (ve_one (ve_not (ve_isi (ve_var 0) (by rfl) bt.isinstance (by rfl) bt.bool bo_bool)))))

/-! ### _law_is_fraction -/
abbrev S__law_is_fraction : Stmt := topS 33
theorem sc__law_is_fraction : FnScope ["thing"] ["thing"] (defScope S__law_is_fraction) := ⟨rfl, rfl, rfl, by decide +kernel, rfl, by decide +kernel, by decide +kernel⟩
theorem w__law_is_fraction (bt : Blt mg) (F : Fun K "_law_is_fraction" "_law_is_fraction" S__law_is_fraction f fd) (b : Binds K fd ["thing"] []) (hm : mg "_law_is_fraction" = some (.ref f)) (c__law_integer : FnV P w K mg base "_law_integer" 1 m__law_integer) (c__law_shared : FnV P w K mg base "_law_shared" 1 m__law_shared) : FnV P w K mg base "_law_is_fraction" 2 m__law_is_fraction :=
  fnv_run (k := 1) F sc__law_is_fraction hm b fun n cdv A outer s H E hr =>
    vss_cons (vs_if ((vw_or (vb_not (vb_val (ve_isi (ve_var 0) (by rfl) bt.isinstance (by rfl) bt.tuple bo_tuple))) (vw_or (vb_cmp (ov_ne (hr.mono (Nat.zero_le _))) (ve_lenv (i := 0) (by rfl) bt.len) (ve_int) (by rfl)) (vw_or (vb_not (vb_val (ve_call (c__law_integer.mono (by decide)) hr body_takes (vds_cons (ve_ixv (i := 0) (ve_int)) (vds_nil))))) (vw_or1 (vb_not (vb_val (ve_call (c__law_integer.mono (by decide)) hr body_takes (vds_cons (ve_ixv (i := 0) (ve_int)) (vds_nil))))))))).vb) (vss_one (vs_ret (ve_bl))) (vss_nil)) (vss_one (vs_ret (ve_and (ve_cmp ov_gt (ve_ixv (i := 0) (ve_int)) (ve_int) (by rfl)) (ve_one (ve_cmp (ov_eq (hr.mono (Nat.zero_le _))) (ve_call (c__law_shared.mono (by decide)) hr body_takes (vds_cons (ve_ixv (i := 0) (ve_int)) (vds_cons (ve_ixv (i := 0) (ve_int)) (vds_nil)))) (ve_int) (by rfl))))))

/-! ### _law_bounds -/
abbrev S__law_bounds : Stmt := topS 34
theorem sc__law_bounds : FnScope ["bag", "most", "one", "other"] ["bag", "most"] (defScope S__law_bounds) := ⟨rfl, rfl, rfl, by decide +kernel, rfl, by decide +kernel, by decide +kernel⟩
theorem w__law_bounds (bt : Blt mg) (F : Fun K "_law_bounds" "_law_bounds" S__law_bounds f fd) (b : Binds K fd ["bag", "most"] []) (hm : mg "_law_bounds" = some (.ref f)) (c__law_one : FnB P w K mg base "_law_one" 2 m__law_one) (c__law_take : FnB P w K mg base "_law_take" 1 m__law_take) : FnB P w K mg base "_law_bounds" 3 m__law_bounds :=
  fnb_run (k := 2) F sc__law_bounds hm b fun n cdv A outer s H E hr =>
    vss_cons (vs_set (i := 2) sc__law_bounds.nd (ve_callBag (i := 0) (c__law_one.mono (by decide)) hr body_takes (vds_cons (ve_lst (vds_cons (ve_int) (vds_cons (ve_int) (vds_cons (ve_int) (vds_cons (ve_var 1) (vds_cons (ve_callBag (i := 0) (c__law_take.mono (by decide)) hr body_takes (vds_cons (ve_bin ov_add (ve_var 1) (ve_int)) (vds_nil))) (vds_nil))))))) (vds_nil)))) (vss_cons (vs_set (i := 3) sc__law_bounds.nd (ve_callBag (i := 0) (c__law_one.mono (by decide)) hr body_takes (vds_cons (ve_lst (vds_cons (ve_var 2) (vds_cons (ve_bin ov_add (ve_var 2) (ve_int)) (vds_cons (ve_var 2) (vds_cons (ve_var 1) (vds_cons (ve_bin ov_mul (ve_int) (ve_var 2)) (vds_cons (ve_bin ov_add (ve_var 2) (ve_callBag (i := 0) (c__law_take.mono (by decide)) hr body_takes (vds_cons (ve_int) (vds_nil)))) (vds_nil)))))))) (vds_nil)))) (vss_cons (vs_par2 (i := 2) (j := 3) rfl sc__law_bounds.nd (vls_cons (ve_callB (cv_min rfl) (by rfl) bt.min bo_min (vds_cons (ve_var 2) (vds_cons (ve_var 1) (vds_nil)))) (vls_cons (ve_callB (cv_min rfl) (by rfl) bt.min bo_min (vds_cons (ve_var 3) (vds_cons (ve_var 1) (vds_nil)))) (vls_nil))) (by rfl) rfl rfl) (vss_one (vs_ret (ve_tup (vds_cons (ve_callB (cv_min rfl) (by rfl) bt.min bo_min (vds_cons (ve_var 2) (vds_cons (ve_var 3) (vds_nil)))) (vds_cons (ve_callB (cv_max rfl) (by rfl) bt.max bo_max (vds_cons (ve_var 2) (vds_cons (ve_var 3) (vds_nil)))) (vds_nil))))))))

/-! ### _law_spans -/
abbrev S__law_spans : Stmt := topS 35
theorem sc__law_spans : FnScope ["bag", "many", "most", "found", "turn", "den", "least", "greatest"] ["bag", "many", "most"] (defScope S__law_spans) := ⟨rfl, rfl, rfl, by decide +kernel, rfl, by decide +kernel, by decide +kernel⟩
theorem w__law_spans (bt : Blt mg) (F : Fun K "_law_spans" "_law_spans" S__law_spans f fd) (b : Binds K fd ["bag", "many", "most"] []) (hm : mg "_law_spans" = some (.ref f)) (c__law_one : FnB P w K mg base "_law_one" 2 m__law_one) (c__law_bounds : FnB P w K mg base "_law_bounds" 3 m__law_bounds) (c__law_ratio : FnV P w K mg base "_law_ratio" 2 m__law_ratio) : FnB P w K mg base "_law_spans" 4 m__law_spans :=
  fnb_run (k := 3) F sc__law_spans hm b fun n cdv A outer s H E hr =>
    vss_cons (vs_set (i := 3) sc__law_spans.nd (ve_lst (vds_nil))) (vss_cons (vs_for (vs := [4]) rfl (passes_of rfl) (wi_range1 (by rfl) bt.range (vds_cons (ve_var 1) (vds_nil))) (vg_nm (i := 4) sc__law_spans.nd) (vss_cons (vs_set (i := 5) sc__law_spans.nd (ve_callBag (i := 0) (c__law_one.mono (by decide)) hr body_takes (vds_cons (ve_lst (vds_cons (ve_int) (vds_cons (ve_int) (vds_cons (ve_int) (vds_cons (ve_int) (vds_cons (ve_int) (vds_nil))))))) (vds_nil)))) (vss_cons (vs_asg (vs := [6, 7]) (ve_callBag (i := 0) (c__law_bounds.mono (by decide)) hr body_takes (vds_cons (ve_var 2) (vds_nil))) (vg_tup rfl (vgs_cons (vg_nm (i := 6) sc__law_spans.nd) (vgs_cons (vg_nm (i := 7) sc__law_spans.nd) (vgs_nil))) (pCons_len (pCons_len pNil_len)))) (vss_one (vs_app (i := 3) (ve_tup (vds_cons (ve_call (c__law_ratio.mono (by decide)) hr body_takes (vds_cons (ve_var 6) (vds_cons (ve_var 5) (vds_nil)))) (vds_cons (ve_call (c__law_ratio.mono (by decide)) hr body_takes (vds_cons (ve_var 7) (vds_cons (ve_var 5) (vds_nil)))) (vds_nil))))))))) (vss_one (vs_ret (ve_callTy cv_tuple (by rfl) bt.tuple bo_tuple (vds_cons (ve_var 3) (vds_nil))))))

/-! ### _law_within -/
abbrev S__law_within : Stmt := topS 36
theorem sc__law_within : FnScope ["span", "size"] ["span", "size"] (defScope S__law_within) := ⟨rfl, rfl, rfl, by decide +kernel, rfl, by decide +kernel, by decide +kernel⟩
theorem w__law_within (bt : Blt mg) (F : Fun K "_law_within" "_law_within" S__law_within f fd) (b : Binds K fd ["span", "size"] []) (hm : mg "_law_within" = some (.ref f)) (c__law_below : FnV P w K mg base "_law_below" 1 m__law_below) : FnV P w K mg base "_law_within" 2 m__law_within :=
  fnv_run (k := 1) F sc__law_within hm b fun n cdv A outer s H E hr =>
    vss_one (vs_ret (ve_and (ve_not (ve_call (c__law_below.mono (by decide)) hr body_takes (vds_cons (ve_var 1) (vds_cons (ve_ixv (i := 0) (ve_int)) (vds_nil))))) (ve_one (ve_not (ve_call (c__law_below.mono (by decide)) hr body_takes (vds_cons (ve_ixv (i := 0) (ve_int)) (vds_cons (ve_var 1) (vds_nil))))))))

/-! ### _law_mean -/
abbrev S__law_mean : Stmt := topS 37
theorem sc__law_mean : FnScope ["bag", "span", "least", "greatest", "by"] ["bag", "span"] (defScope S__law_mean) := ⟨rfl, rfl, rfl, by decide +kernel, rfl, by decide +kernel, by decide +kernel⟩
theorem w__law_mean (bt : Blt mg) (F : Fun K "_law_mean" "_law_mean" S__law_mean f fd) (b : Binds K fd ["bag", "span"] []) (hm : mg "_law_mean" = some (.ref f)) (c__law_one : FnB P w K mg base "_law_one" 2 m__law_one) (c__law_plus : FnV P w K mg base "_law_plus" 3 m__law_plus) (c__law_by : FnV P w K mg base "_law_by" 3 m__law_by) (c__law_minus : FnV P w K mg base "_law_minus" 3 m__law_minus) : FnB P w K mg base "_law_mean" 4 m__law_mean :=
  fnb_run (k := 3) F sc__law_mean hm b fun n cdv A outer s H E hr =>
    vss_cons (vs_asg (vs := [2, 3]) (ve_var 1) (vg_tup rfl (vgs_cons (vg_nm (i := 2) sc__law_mean.nd) (vgs_cons (vg_nm (i := 3) sc__law_mean.nd) (vgs_nil))) (pCons_len (pCons_len pNil_len)))) (vss_cons (vs_set (i := 4) sc__law_mean.nd (ve_callBag (i := 0) (c__law_one.mono (by decide)) hr body_takes (vds_cons (ve_lst (vds_cons (ve_tup (vds_cons (ve_int) (vds_cons (ve_int) (vds_nil)))) (vds_cons (ve_tup (vds_cons (ve_int) (vds_cons (ve_int) (vds_nil)))) (vds_cons (ve_tup (vds_cons (ve_int) (vds_cons (ve_int) (vds_nil)))) (vds_cons (ve_tup (vds_cons (ve_int) (vds_cons (ve_int) (vds_nil)))) (vds_cons (ve_tup (vds_cons (ve_int) (vds_cons (ve_int) (vds_nil)))) (vds_nil))))))) (vds_nil)))) (vss_one (vs_ret (ve_call (c__law_plus.mono (by decide)) hr body_takes (vds_cons (ve_lst (vds_cons (ve_var 2) (vds_cons (ve_call (c__law_by.mono (by decide)) hr body_takes (vds_cons (ve_var 4) (vds_cons (ve_call (c__law_minus.mono (by decide)) hr body_takes (vds_cons (ve_var 3) (vds_cons (ve_var 2) (vds_nil)))) (vds_nil)))) (vds_nil)))) (vds_nil))))))

/-! ### _law_is_signing -/
abbrev S__law_is_signing : Stmt := topS 38
theorem sc__law_is_signing : FnScope ["spans", "thing", "amounts", "signs", "sign", "one", "span"] ["spans", "thing"] (defScope S__law_is_signing) := ⟨rfl, rfl, rfl, by decide +kernel, rfl, by decide +kernel, by decide +kernel⟩
theorem w__law_is_signing (bt : Blt mg) (F : Fun K "_law_is_signing" "_law_is_signing" S__law_is_signing f fd) (b : Binds K fd ["spans", "thing"] []) (hm : mg "_law_is_signing" = some (.ref f)) (c__law_plus : FnV P w K mg base "_law_plus" 3 m__law_plus) (c__law_by : FnV P w K mg base "_law_by" 3 m__law_by) (c__law_integer : FnV P w K mg base "_law_integer" 1 m__law_integer) (c__law_is_fraction : FnV P w K mg base "_law_is_fraction" 2 m__law_is_fraction) (c__law_within : FnV P w K mg base "_law_within" 2 m__law_within) : FnV P w K mg base "_law_is_signing" 4 m__law_is_signing :=
  fnv_run (k := 3) F sc__law_is_signing hm b fun n cdv A outer s H E hr =>
    vss_cons (vs_if ((vw_or (vb_not (vb_val (ve_isi (ve_var 1) (by rfl) bt.isinstance (by rfl) bt.tuple bo_tuple))) (vw_or (vb_cmp (ov_ne (hr.mono (Nat.zero_le _))) (ve_lenv (i := 1) (by rfl) bt.len) (ve_int) (by rfl)) (vw_or (vb_not (vb_val (ve_isi (ve_ixv (i := 1) (ve_int)) (by rfl) bt.isinstance (by rfl) bt.tuple bo_tuple))) (vw_or1 (vb_not (vb_val (ve_isi (ve_ixv (i := 1) (ve_int)) (by rfl) bt.isinstance (by rfl) bt.tuple bo_tuple))))))).vb) (vss_one (vs_ret (ve_bl))) (vss_nil)) (vss_cons (vs_asg (vs := [2, 3]) (ve_var 1) (vg_tup rfl (vgs_cons (vg_nm (i := 2) sc__law_is_signing.nd) (vgs_cons (vg_nm (i := 3) sc__law_is_signing.nd) (vgs_nil))) (pCons_len (pCons_len pNil_len)))) (vss_cons (vs_if ((vw_or (vb_cmp (ov_ne (hr.mono (Nat.zero_le _))) (ve_lenv (i := 2) (by rfl) bt.len) (ve_lenv (i := 0) (by rfl) bt.len) (by rfl)) (vw_or1 (vb_cmp (ov_ne (hr.mono (Nat.zero_le _))) (ve_lenv (i := 3) (by rfl) bt.len) (ve_lenv (i := 0) (by rfl) bt.len) (by rfl)))).vb) (vss_one (vs_ret (ve_bl))) (vss_nil)) (vss_cons (vs_if (vb_cmp (ov_ne (hr.mono (Nat.zero_le _))) (ve_lc [("sign", 4)] rfl sc__law_is_signing.nd (blkOk_by (by rfl)) (vi_seq (ve_var 3)) (fun s H C cl fp => vg_nm (i := 4) sc__law_is_signing.nd) (fun s H C cl fp => vts_one ((vw_or (vb_not (vb_val (ve_call (c__law_integer.mono (by decide)) hr tk0 (vds_cons (ve_var 4) (vds_nil))))) (vw_or1 (vb_cmp (ov_notIn (hr.mono (Nat.zero_le _))) (ve_var 4) (ve_tup (vds_cons (ve_int) (vds_cons (ve_un uv_neg (ve_int)) (vds_nil)))) (by rfl)))).vb)) (fun s H C cl fp => ve_int)) (ve_lst (vds_nil)) (by rfl)) (vss_one (vs_ret (ve_bl))) (vss_nil)) (vss_cons (vs_if (vb_cmp (ov_ne (hr.mono (Nat.zero_le _))) (ve_lc [("one", 5), ("span", 6)] rfl sc__law_is_signing.nd (blkOk_by (by rfl)) (wi_zip (by rfl) bt.zip (vds_cons (ve_var 2) (vds_cons (ve_var 0) (vds_nil)))) (fun s H C cl fp => vg_tup rfl (vgs_cons (vg_nm (i := 5) sc__law_is_signing.nd) (vgs_cons (vg_nm (i := 6) sc__law_is_signing.nd) (vgs_nil))) (pCons_len (pCons_len pNil_len))) (fun s H C cl fp => vts_one ((vw_or (vb_not (vb_val (ve_call (c__law_is_fraction.mono (by decide)) hr tk0 (vds_cons (ve_var 5) (vds_nil))))) (vw_or1 (vb_not (vb_val (ve_call (c__law_within.mono (by decide)) hr tk0 (vds_cons (ve_var 6) (vds_cons (ve_var 5) (vds_nil)))))))).vb)) (fun s H C cl fp => ve_int)) (ve_lst (vds_nil)) (by rfl)) (vss_one (vs_ret (ve_bl))) (vss_nil)) (vss_one (vs_ret (ve_cmp (ov_eq (hr.mono (Nat.zero_le _))) (ve_ix iv_ix (ve_call (c__law_plus.mono (by decide)) hr body_takes (vds_cons (ve_lc [("one", 5), ("sign", 4)] rfl sc__law_is_signing.nd (blkOk_by (by rfl)) (wi_zip (by rfl) bt.zip (vds_cons (ve_var 2) (vds_cons (ve_var 3) (vds_nil)))) (fun s H C cl fp => vg_tup rfl (vgs_cons (vg_nm (i := 5) sc__law_is_signing.nd) (vgs_cons (vg_nm (i := 4) sc__law_is_signing.nd) (vgs_nil))) (pCons_len (pCons_len pNil_len))) (fun s H C cl fp => vts_nil) (fun s H C cl fp => ve_call (c__law_by.mono (by decide)) hr tk0 (vds_cons (ve_var 5) (vds_cons (ve_tup (vds_cons (ve_var 4) (vds_cons (ve_int) (vds_nil)))) (vds_nil))))) (vds_nil))) (ve_int)) (ve_int) (by rfl))))))))

/-! ### _law_some_signs -/
abbrev S__law_some_signs : Stmt := topS 39
theorem sc__law_some_signs : FnScope ["spans", "sums", "least", "greatest", "later", "low", "high"] ["spans"] (defScope S__law_some_signs) := ⟨rfl, rfl, rfl, by decide +kernel, rfl, by decide +kernel, by decide +kernel⟩
theorem w__law_some_signs (bt : Blt mg) (F : Fun K "_law_some_signs" "_law_some_signs" S__law_some_signs f fd) (b : Binds K fd ["spans"] []) (hm : mg "_law_some_signs" = some (.ref f)) (c__law_plus : FnV P w K mg base "_law_plus" 3 m__law_plus) (c__law_minus : FnV P w K mg base "_law_minus" 3 m__law_minus) : FnV P w K mg base "_law_some_signs" 4 m__law_some_signs :=
  fnv_run (k := 3) F sc__law_some_signs hm b fun n cdv A outer s H E hr =>
    vss_cons (vs_set (i := 1) sc__law_some_signs.nd (ve_lst (vds_cons (ve_tup (vds_cons (ve_tup (vds_cons (ve_int) (vds_cons (ve_int) (vds_nil)))) (vds_cons (ve_tup (vds_cons (ve_int) (vds_cons (ve_int) (vds_nil)))) (vds_nil)))) (vds_nil)))) (vss_cons (vs_for (vs := [2, 3]) rfl (passes_of rfl) (vi_seq (ve_var 0)) (vg_tup rfl (vgs_cons (vg_nm (i := 2) sc__law_some_signs.nd) (vgs_cons (vg_nm (i := 3) sc__law_some_signs.nd) (vgs_nil))) (pCons_len (pCons_len pNil_len))) (vss_keys (l := 4) (j := 1) (dst := 1) (vs := [5, 6]) (hr.mono (Nat.zero_le _)) rfl (passes_of rfl) sc__law_some_signs.nd (vg_tup rfl (vgs_cons (vg_nm (i := 5) sc__law_some_signs.nd) (vgs_cons (vg_nm (i := 6) sc__law_some_signs.nd) (vgs_nil))) (pCons_len (pCons_len pNil_len))) (ve_tup (vds_cons (ve_call (c__law_plus.mono (by decide)) hr body_takes (vds_cons (ve_lst (vds_cons (ve_var 5) (vds_cons (ve_var 2) (vds_nil)))) (vds_nil))) (vds_cons (ve_call (c__law_plus.mono (by decide)) hr body_takes (vds_cons (ve_lst (vds_cons (ve_var 6) (vds_cons (ve_var 3) (vds_nil)))) (vds_nil))) (vds_nil)))) (ve_tup (vds_cons (ve_call (c__law_minus.mono (by decide)) hr body_takes (vds_cons (ve_var 5) (vds_cons (ve_var 3) (vds_nil)))) (vds_cons (ve_call (c__law_minus.mono (by decide)) hr body_takes (vds_cons (ve_var 6) (vds_cons (ve_var 2) (vds_nil)))) (vds_nil)))) (vss_nil) (by rfl) bt.list)) (vss_one (vs_ret (ve_cmp (ov_ne (hr.mono (Nat.zero_le _))) (ve_lc [("low", 5), ("high", 6)] rfl sc__law_some_signs.nd (blkOk_by (by rfl)) (vi_seq (ve_var 1)) (fun s H C cl fp => vg_tup rfl (vgs_cons (vg_nm (i := 5) sc__law_some_signs.nd) (vgs_cons (vg_nm (i := 6) sc__law_some_signs.nd) (vgs_nil))) (pCons_len (pCons_len pNil_len))) (fun s H C cl fp => vts_one (vb_chain ov_le ov_le (ve_ixv (i := 5) (ve_int)) (ve_int) (ve_ixv (i := 6) (ve_int)))) (fun s H C cl fp => ve_int)) (ve_lst (vds_nil)) (by rfl)))))

/-! ### _law_near -/
abbrev S__law_near : Stmt := topS 40
theorem sc__law_near : FnScope ["bag", "spans", "base", "amounts", "signs", "found", "k", "one", "sign"] ["bag", "spans", "base"] (defScope S__law_near) := ⟨rfl, rfl, rfl, by decide +kernel, rfl, by decide +kernel, by decide +kernel⟩
theorem w__law_near (bt : Blt mg) (F : Fun K "_law_near" "_law_near" S__law_near f fd) (b : Binds K fd ["bag", "spans", "base"] []) (hm : mg "_law_near" = some (.ref f)) (c__law_take : FnB P w K mg base "_law_take" 1 m__law_take) (c__law_plus : FnV P w K mg base "_law_plus" 3 m__law_plus) : FnB P w K mg base "_law_near" 4 m__law_near_v2 :=
  fnb_run (k := 3) F sc__law_near hm b fun n cdv A outer s H E hr =>
    vss_cons (vs_asg (vs := [3, 4]) (ve_var 2) (vg_tup rfl (vgs_cons (vg_nm (i := 3) sc__law_near.nd) (vgs_cons (vg_nm (i := 4) sc__law_near.nd) (vgs_nil))) (pCons_len (pCons_len pNil_len)))) (vss_cons (vs_set (i := 5) sc__law_near.nd (ve_lst (vds_cons (ve_var 2) (vds_cons (ve_callTy cv_list (by rfl) bt.list bo_list (vds_cons (ve_var 2) (vds_nil))) (vds_cons (ve_tup (vds_cons (ve_var 3) (vds_nil))) (vds_cons (ve_tup (vds_cons (ve_callTy cv_list (by rfl) bt.list bo_list (vds_cons (ve_var 3) (vds_nil))) (vds_cons (ve_var 4) (vds_nil)))) (vds_cons (ve_tup (vds_cons (ve_var 3) (vds_cons (ve_callTy cv_list (by rfl) bt.list bo_list (vds_cons (ve_var 4) (vds_nil))) (vds_nil)))) (vds_cons (ve_non) (vds_cons (ve_tup (vds_nil)) (vds_cons (ve_tup (vds_cons (ve_var 4) (vds_cons (ve_var 3) (vds_nil)))) (vds_cons (ve_tup (vds_cons (ve_bin ov_add (ve_var 3) (ve_tup (vds_cons (ve_tup (vds_cons (ve_int) (vds_cons (ve_int) (vds_nil)))) (vds_nil)))) (vds_cons (ve_bin ov_add (ve_var 4) (ve_tup (vds_cons (ve_int) (vds_nil)))) (vds_nil)))) (vds_nil)))))))))))) (vss_cons (vs_app (i := 5) (ve_tup (vds_cons (ve_var 3) (vds_cons (ve_callTy cv_tuple (by rfl) bt.tuple bo_tuple (vds_cons (ve_lc [("sign", 8)] rfl sc__law_near.nd (blkOk_by (by rfl)) (vi_seq (ve_var 4)) (fun s H C cl fp => vg_nm (i := 8) sc__law_near.nd) (fun s H C cl fp => vts_nil) (fun s H C cl fp => ve_un uv_neg (ve_var 8))) (vds_nil))) (vds_nil))))) (vss_cons (vs_if (vb_cmp (ov_ne (hr.mono (Nat.zero_le _))) (ve_var 1) (ve_tup (vds_nil)) (by rfl)) (vss_cons (vs_set (i := 6) sc__law_near.nd (ve_callBag (i := 0) (c__law_take.mono (by decide)) hr body_takes (vds_cons (ve_lenv (i := 1) (by rfl) bt.len) (vds_nil)))) (vss_cons (vs_for (vs := [7]) rfl (passes_of rfl) (vi_seq (ve_lst (vds_cons (ve_call (c__law_plus.mono (by decide)) hr body_takes (vds_cons (ve_lst (vds_cons (ve_ixv (i := 3) (ve_var 6)) (vds_cons (ve_tup (vds_cons (ve_int) (vds_cons (ve_int) (vds_nil)))) (vds_nil)))) (vds_nil))) (vds_cons (ve_ix iv_ix (ve_ixv (i := 1) (ve_var 6)) (ve_int)) (vds_cons (ve_ix iv_ix (ve_ixv (i := 1) (ve_var 6)) (ve_int)) (vds_cons (ve_tup (vds_cons (ve_int) (vds_cons (ve_int) (vds_nil)))) (vds_cons (ve_int) (vds_cons (ve_non) (vds_cons (ve_lst (vds_cons (ve_int) (vds_cons (ve_int) (vds_nil)))) (vds_cons (ve_tup (vds_cons (ve_int) (vds_cons (ve_un uv_neg (ve_int)) (vds_nil)))) (vds_nil))))))))))) (vg_nm (i := 7) sc__law_near.nd) (vss_one (vs_app (i := 5) (ve_tup (vds_cons (ve_bin ov_add (ve_bin ov_add (ve_slv (i := 3) (vo_none) (vo_some (ve_var 6))) (ve_tup (vds_cons (ve_var 7) (vds_nil)))) (ve_slv (i := 3) (vo_some (ve_bin ov_add (ve_var 6) (ve_int))) (vo_none))) (vds_cons (ve_var 4) (vds_nil))))))) (vss_one (vs_for (vs := [8]) rfl (passes_of rfl) (vi_seq (ve_lst (vds_cons (ve_un uv_neg (ve_ixv (i := 4) (ve_var 6))) (vds_cons (ve_int) (vds_cons (ve_bl) (vds_cons (ve_int) (vds_cons (ve_tup (vds_cons (ve_int) (vds_cons (ve_int) (vds_nil)))) (vds_cons (ve_non) (vds_nil))))))))) (vg_nm (i := 8) sc__law_near.nd) (vss_one (vs_app (i := 5) (ve_tup (vds_cons (ve_var 3) (vds_cons (ve_bin ov_add (ve_bin ov_add (ve_slv (i := 4) (vo_none) (vo_some (ve_var 6))) (ve_tup (vds_cons (ve_var 8) (vds_nil)))) (ve_slv (i := 4) (vo_some (ve_bin ov_add (ve_var 6) (ve_int))) (vo_none))) (vds_nil)))))))))) (vss_nil)) (vss_one (vs_retv 5)))))

def e1_law (n : Nat) : M Sl := vCallB 1 m__law_mean (vCons (vVar 10) (vNil))
def e2_law (n : Nat) : M Sl := vCallB 1 m__law_one (vCons (vLst (vCons (vC (.int 1)) (vCons (vUn dNeg (vC (.int 1))) (vNil)))) (vNil))
def b1_law (n : Nat) : MS := sSeq (sSet 9 (vCb dRepr (vCons (vVar 8) (vNil)))) (sIf (bOr (bNot (vB (vCallL m__law_alike (aCons (vCall m_is_signing (vCons (vVar 3) (vCons (vVar 8) (vNil)))) (aCons (vCall m__law_is_signing (vCons (vVar 3) (vCons (vVar 8) (vNil)))) (aNil)))))) (vB (vOp dNe (vCb dRepr (vCons (vVar 8) (vNil))) (vVar 9)))) (sRet (vC (.bool false))) (sNil))
def s1_law (n : Nat) : MS := sSet 3 (vCallB 1 m__law_spans (vCons (vCallB 1 m__law_one (vCons (vLst (vCons (vC (.int 3)) (vCons (vC (.int 0)) (vCons (vC (.int 1)) (vCons (vC (.int 2)) (vCons (vC (.int 4)) (vCons (vC (.int 5)) (vCons (vC (.int 6)) (vCons (vC (.int 8)) (vCons (vC (.int 12)) (vNil))))))))))) (vNil))) (vCons (vCallB 1 m__law_one (vCons (vLst (vCons (vC (.int 9)) (vCons (vC (.int 3)) (vCons (vC (.int 99)) (vNil))))) (vNil))) (vNil))))
def s2_law (n : Nat) : MS := sIf (vB (vOp dEq (vCallB 1 m__law_take (vCons (vC (.int 3)) (vNil))) (vC (.int 0)))) (sSet 3 (vSl (vOp dAdd (vVar 3) (vSlv 3 (oNone) (oSome (vCallB 1 m__law_take (vCons (vC (.int 3)) (vNil)))))) (oNone) (oSome (vC (.int 12))))) (sNil)
def s3_law (n : Nat) : MS := sPar [4, 5, 6] (lCons (vCb dRepr (vCons (vVar 3) (vNil))) (lCons (vCall m_signing (vCons (vVar 3) (vNil))) (lCons (vCall m__law_some_signs (vCons (vVar 3) (vNil))) (lNil))))
def s4_law (n : Nat) : MS := sIf (bOr (vB (vOp dNe (vOp dIsnt (vVar 5) (vC .none)) (vVar 6))) (bNot (vB (vCallL m__law_alike (aCons (vCall m_signing (vCons (vVar 3) (vNil))) (aLend 5 (aNil))))))) (sRet (vC (.bool false))) (sNil)
def s5_law (n : Nat) : MS := sIf (bAnd (vB (vVar 6)) (bOr (bNot (vB (vCall m__law_is_signing (vCons (vVar 3) (vCons (vVar 5) (vNil)))))) (bNot (vB (vCallL m__law_alike (aCons (vCall m_closes (vCons (vVar 3) (vNil))) (aCons (vC (.bool true)) (aNil)))))))) (sRet (vC (.bool false))) (sNil)
def s6_law (n : Nat) : MS := sSet 7 (vIf (vB (vVar 6)) (vVar 5) (vTup (vCons (vCb dTuple (vCons (vLc (vItems (vVar 3)) (pNm 10) (bYes) (e1_law n) [10]) (vNil))) (vCons (vCb dTuple (vCons (vLc (vItems (vVar 3)) (pNm 10) (bYes) (e2_law n) [10]) (vNil))) (vNil)))))
def s7_law (n : Nat) : MS := sFor (vItems (vCallB 1 m__law_near_v2 (vCons (vVar 3) (vCons (vVar 7) (vNil))))) (pNm 8) (b1_law n)
def s8_law (n : Nat) : MS := sIf (vB (vOp dNe (vCb dRepr (vCons (vVar 3) (vNil))) (vVar 4))) (sRet (vC (.bool false))) (sNil)
def b2_law (n : Nat) : MS := sSeq (s1_law n) (sSeq (s2_law n) (sSeq (s3_law n) (sSeq (s4_law n) (sSeq (s5_law n) (sSeq (s6_law n) (sSeq (s7_law n) (s8_law n)))))))
/-! ### law -/
abbrev S_law : Stmt := topS 41
theorem sc_law : FnScope ["script", "bag", "turn", "spans", "shown", "found", "due", "base", "thing", "said", "span"] ["script"] (defScope S_law) := ⟨rfl, rfl, rfl, by decide +kernel, rfl, by decide +kernel, by decide +kernel⟩
def g_law (n : Nat) : MS := sSeq (sSet 1 (vCall m__law_bag (vCons (vVar 0) (vNil)))) (sSeq (sFor (vRng1 (vCons (vC (.int 4)) (vNil))) (pNm 2) (b2_law n)) (sRet (vC (.bool true))))
def m_law : List D → Option Out := runM 1 11 g_law (fun _ => 0)
theorem w_law (bt : Blt mg) (F : Fun K "law" "law" S_law f fd) (c__law_bag : FnV P w K mg base "_law_bag" 1 m__law_bag) (c__law_spans : FnB P w K mg base "_law_spans" 4 m__law_spans) (c__law_near : FnB P w K mg base "_law_near" 4 m__law_near_v2) (c__law_one : FnB P w K mg base "_law_one" 2 m__law_one) (c__law_take : FnB P w K mg base "_law_take" 1 m__law_take) (c_signing : FnV P w K mg base "signing" 6 m_signing) (c__law_some_signs : FnV P w K mg base "_law_some_signs" 4 m__law_some_signs) (c__law_alike : FnV P w K mg base "_law_alike" 1 m__law_alike) (c__law_is_signing : FnV P w K mg base "_law_is_signing" 4 m__law_is_signing) (c_closes : FnV P w K mg base "closes" 4 m_closes) (c__law_mean : FnB P w K mg base "_law_mean" 4 m__law_mean) (c_is_signing : FnV P w K mg base "is_signing" 5 m_is_signing) : FnG P w K mg base 7 f fd ["script"] (spV K mg m_law) :=
  fng_run (k := 6) F sc_law fun n cdv A outer s H E hr =>
    vss_cons (vs_set (i := 1) sc_law.nd (ve_call (c__law_bag.mono (by decide)) hr body_takes (vds_cons (ve_var 0) (vds_nil)))) (vss_cons (vs_for (vs := [2]) rfl (passes_of rfl) (wi_range1 (by rfl) bt.range (vds_cons (ve_int) (vds_nil))) (vg_nm (i := 2) sc_law.nd) (vss_cons (vs_set (i := 3) sc_law.nd (ve_callBag (i := 1) (c__law_spans.mono (by decide)) hr body_takes (vds_cons (ve_callBag (i := 1) (c__law_one.mono (by decide)) hr body_takes (vds_cons (ve_lst (vds_cons (ve_int) (vds_cons (ve_int) (vds_cons (ve_int) (vds_cons (ve_int) (vds_cons (ve_int) (vds_cons (ve_int) (vds_cons (ve_int) (vds_cons (ve_int) (vds_cons (ve_int) (vds_nil))))))))))) (vds_nil))) (vds_cons (ve_callBag (i := 1) (c__law_one.mono (by decide)) hr body_takes (vds_cons (ve_lst (vds_cons (ve_int) (vds_cons (ve_int) (vds_cons (ve_int) (vds_nil))))) (vds_nil))) (vds_nil))))) (vss_cons (vs_if (vb_cmp (ov_eq (hr.mono (Nat.zero_le _))) (ve_callBag (i := 1) (c__law_take.mono (by decide)) hr body_takes (vds_cons (ve_int) (vds_nil))) (ve_int) (by rfl)) (vss_one (vs_set (i := 3) sc_law.nd (ve_slice (ve_bin ov_add (ve_var 3) (ve_slv (i := 3) (vo_none) (vo_some (ve_callBag (i := 1) (c__law_take.mono (by decide)) hr body_takes (vds_cons (ve_int) (vds_nil)))))) (vo_none) (vo_some (ve_int))))) (vss_nil)) (vss_cons (vs_par3 (i := 4) (j := 5) (l := 6) rfl sc_law.nd (vls_cons (ve_callB (cv_repr (hr.mono (Nat.zero_le _))) (by rfl) bt.repr bo_repr (vds_cons (ve_var 3) (vds_nil))) (vls_cons (ve_call (c_signing.mono (by decide)) hr body_takes (vds_cons (ve_var 3) (vds_nil))) (vls_cons (ve_call (c__law_some_signs.mono (by decide)) hr body_takes (vds_cons (ve_var 3) (vds_nil))) (vls_nil)))) (by rfl) rfl rfl rfl) (vss_cons (vs_if ((vw_or (vb_cmp (ov_ne (hr.mono (Nat.zero_le _))) (ve_cmp ov_isnt (ve_var 5) (ve_non) (by rfl)) (ve_var 6) (by rfl)) (vw_or1 (vb_not (vb_val (ve_callL (c__law_alike.mono (by decide)) hr body_takes (vas_cons (ve_call (c_signing.mono (by decide)) hr body_takes (vds_cons (ve_var 3) (vds_nil))) (vas_lend 5 (vas_nil)))))))).vb) (vss_one (vs_ret (ve_bl))) (vss_nil)) (vss_cons (vs_if ((vw_and (vb_val (ve_var 6)) (vw_and1 ((vw_or (vb_not (vb_val (ve_call (c__law_is_signing.mono (by decide)) hr body_takes (vds_cons (ve_var 3) (vds_cons (ve_var 5) (vds_nil)))))) (vw_or1 (vb_not (vb_val (ve_callL (c__law_alike.mono (by decide)) hr body_takes (vas_cons (ve_call (c_closes.mono (by decide)) hr body_takes (vds_cons (ve_var 3) (vds_nil))) (vas_cons (ve_bl) (vas_nil)))))))).vb))).vb) (vss_one (vs_ret (ve_bl))) (vss_nil)) (vss_cons (vs_set (i := 7) sc_law.nd (ve_if (vb_val (ve_var 6)) (ve_var 5) (ve_tup (vds_cons (ve_callTy cv_tuple (by rfl) bt.tuple bo_tuple (vds_cons (ve_lc [("span", 10)] rfl sc_law.nd (blkOk_by (by rfl)) (vi_seq (ve_var 3)) (fun s H C cl fp => vg_nm (i := 10) sc_law.nd) (fun s H C cl fp => vts_nil) (fun s H C cl fp => ve_callBag (i := 1) (c__law_mean.mono (by decide)) hr tk0 (vds_cons (ve_var 10) (vds_nil)))) (vds_nil))) (vds_cons (ve_callTy cv_tuple (by rfl) bt.tuple bo_tuple (vds_cons (ve_lc [("span", 10)] rfl sc_law.nd (blkOk_by (by rfl)) (vi_seq (ve_var 3)) (fun s H C cl fp => vg_nm (i := 10) sc_law.nd) (fun s H C cl fp => vts_nil) (fun s H C cl fp => ve_callBag (i := 1) (c__law_one.mono (by decide)) hr tk0 (vds_cons (ve_lst (vds_cons (ve_int) (vds_cons (ve_un uv_neg (ve_int)) (vds_nil)))) (vds_nil)))) (vds_nil))) (vds_nil)))))) (vss_cons (vs_for (vs := [8]) rfl (passes_of rfl) (vi_seq (ve_callBag (i := 1) (c__law_near.mono (by decide)) hr body_takes (vds_cons (ve_var 3) (vds_cons (ve_var 7) (vds_nil))))) (vg_nm (i := 8) sc_law.nd) (vss_cons (vs_set (i := 9) sc_law.nd (ve_callB (cv_repr (hr.mono (Nat.zero_le _))) (by rfl) bt.repr bo_repr (vds_cons (ve_var 8) (vds_nil)))) (vss_one (vs_if ((vw_or (vb_not (vb_val (ve_callL (c__law_alike.mono (by decide)) hr body_takes (vas_cons (ve_call (c_is_signing.mono (by decide)) hr body_takes (vds_cons (ve_var 3) (vds_cons (ve_var 8) (vds_nil)))) (vas_cons (ve_call (c__law_is_signing.mono (by decide)) hr body_takes (vds_cons (ve_var 3) (vds_cons (ve_var 8) (vds_nil)))) (vas_nil)))))) (vw_or1 (vb_cmp (ov_ne (hr.mono (Nat.zero_le _))) (ve_callB (cv_repr (hr.mono (Nat.zero_le _))) (by rfl) bt.repr bo_repr (vds_cons (ve_var 8) (vds_nil))) (ve_var 9) (by rfl)))).vb) (vss_one (vs_ret (ve_bl))) (vss_nil))))) (vss_one (vs_if (vb_cmp (ov_ne (hr.mono (Nat.zero_le _))) (ve_callB (cv_repr (hr.mono (Nat.zero_le _))) (by rfl) bt.repr bo_repr (vds_cons (ve_var 3) (vds_nil))) (ve_var 4) (by rfl)) (vss_one (vs_ret (ve_bl))) (vss_nil))))))))))) (vss_one (vs_ret (ve_bl))))

end
end G74

namespace Fr
open PySem Mv Sh

/-! ### the meaning of texts, unrolled -/
def sThen (r : R Fl) (k : MS) : R Fl := match r with
  | .ok .nx e => k e
  | r => r
@[simp] theorem then_nx (e : En) (k : MS) : sThen (.ok .nx e) k = k e := rfl
@[simp] theorem then_rt (r : Sl) (e : En) (k : MS) : sThen (.ok (.rt r) e) k = .ok (.rt r) e := rfl
@[simp] theorem then_bk (e : En) (k : MS) : sThen (.ok .bk e) k = .ok .bk e := rfl
@[simp] theorem then_ct (e : En) (k : MS) : sThen (.ok .ct e) k = .ok .ct e := rfl
@[simp] theorem then_exc (c fs) (e : En) (k : MS) : sThen (.exc c fs e) k = .exc c fs e := rfl
theorem abs_nat (a : Int) : (if a < 0 then -a else a) = (a.natAbs : Int) := by split <;> omega
section
variable (f g : M Sl) (h k : MS) (c c2 : M Bool) (gs : M (List D)) (ls : M (List Sl)) (s : Sl) (es : List Sl) (i : Nat) (o : D → D → Option Sl) (u : D → Option Sl) (cb : List D → Option Sl) (m : List D → Option Out)
@[simp] theorem e_seq : sSeq h k (s :: es) = sThen (h (s :: es)) k := rfl
@[simp] theorem e_set : sSet i f (s :: es) = (f (s :: es)).bind fun r e => .ok .nx (e.set i r) := rfl
@[simp] theorem e_ret : sRet f (s :: es) = (f (s :: es)).bind fun r e => .ok (.rt r) e := rfl
@[simp] theorem e_nil : sNil (s :: es) = .ok .nx (s :: es) := rfl
@[simp] theorem e_sif : sIf c h k (s :: es) = (c (s :: es)).bind fun b e => if b = true then h e else k e := rfl
@[simp] theorem e_var : vVar i (s :: es) = match (s :: es)[i]? with
  | some (.val d) => .ok (.val d) (s :: es)
  | some (.own false xs) => .ok (.val (.list xs)) ((s :: es).set i (.val (.list xs)))
  | _ => .bad := rfl
@[simp] theorem e_c (d : D) : vC d (s :: es) = .ok (.val d) (s :: es) := rfl
@[simp] theorem e_vd : vD f (s :: es) = (f (s :: es)).bind frzS := rfl
@[simp] theorem e_op : vOp o f g (s :: es) = (vD f (s :: es)).bind fun x e => (vD g e).bind fun y e2 => opt (o x y) e2 := rfl
@[simp] theorem e_un : vUn u f (s :: es) = (vD f (s :: es)).bind fun x e => opt (u x) e := rfl
@[simp] theorem e_cb : vCb cb gs (s :: es) = (gs (s :: es)).bind fun xs e => opt (cb xs) e := rfl
@[simp] theorem e_vb : vB f (s :: es) = (vD f (s :: es)).bind bOf := rfl
@[simp] theorem e_cons : vCons f gs (s :: es) = (vD f (s :: es)).bind fun d e => (gs e).bind fun ds e2 => .ok (d :: ds) e2 := rfl
@[simp] theorem e_vnil : vNil (s :: es) = .ok [] (s :: es) := rfl
@[simp] theorem e_tup : vTup gs (s :: es) = (gs (s :: es)).bind fun ds e => opt (if ds.length ≤ LIM then some (.val (.tuple ds)) else none) e := rfl
@[simp] theorem e_lst : vLst gs (s :: es) = (gs (s :: es)).bind fun ds e => opt (if ds.length ≤ LIM then some (.own false ds) else none) e := rfl
@[simp] theorem e_call : vCall m gs (s :: es) = (gs (s :: es)).bind fun ds e => callR (m ds) e := rfl
@[simp] theorem e_lcons : lCons f ls (s :: es) = (f (s :: es)).bind fun r e => (ls e).bind fun rs e2 => .ok (r :: rs) e2 := rfl
@[simp] theorem e_lnil : lNil (s :: es) = .ok [] (s :: es) := rfl
@[simp] theorem e_par (is : List Nat) : sPar is ls (s :: es) = (ls (s :: es)).bind fun rs e => match storeE is rs e with
  | some e2 => .ok .nx e2
  | none => .bad := rfl
@[simp] theorem e_ixv : vIxv i f (s :: es) = match (s :: es)[i]? with
  | some (.val d) => (vD f (s :: es)).bind fun k e => opt (dIx d k) e
  | some (.own _ _) => (vD f (s :: es)).bind fun k e => ownE i e fun _ xs => opt (dIx (.list xs) k) e
  | _ => .bad := rfl
@[simp] theorem e_retv : sRetV i (s :: es) = match (s :: es)[i]? with
  | some (.val d) => .ok (.rt (.val d)) (s :: es)
  | some (.own false xs) => .ok (.rt (.own false xs)) ((s :: es).set i .no)
  | _ => .bad := rfl
@[simp] theorem e_if : vIf c f g (s :: es) = (c (s :: es)).bind fun b e => if b = true then f e else g e := rfl
@[simp] theorem e_and : vAnd f g (s :: es) = (vB f (s :: es)).bind fun b e => if b = true then g e else .ok (.val (.bool false)) e := rfl
@[simp] theorem e_or : vOr f g (s :: es) = (vB f (s :: es)).bind fun b e => if b = true then .ok (.val (.bool true)) e else g e := rfl
@[simp] theorem e_not : vNot f (s :: es) = (vB f (s :: es)).bind fun b e => .ok (.val (.bool (!b))) e := rfl
@[simp] theorem e_band : bAnd c c2 (s :: es) = (c (s :: es)).bind fun b e => if b = true then c2 e else .ok false e := rfl
@[simp] theorem e_bor : bOr c c2 (s :: es) = (c (s :: es)).bind fun b e => if b = true then .ok true e else c2 e := rfl
@[simp] theorem e_bnot : bNot c (s :: es) = (c (s :: es)).bind fun b e => .ok (!b) e := rfl
@[simp] theorem e_store1 (is : List Nat) (r : Sl) (rs : List Sl) : storeE (i :: is) (r :: rs) (s :: es) = storeE is rs ((s :: es).set i r) := rfl
@[simp] theorem e_store0 : storeE [] [] (s :: es) = some (s :: es) := rfl
@[simp] theorem e_outrt (r : Sl) : outOf (.ok (.rt r) (s :: es)) = some (.ret r) := rfl
@[simp] theorem e_outnx : outOf (.ok .nx (s :: es)) = some (.ret (.val .none)) := rfl
@[simp] theorem e_abs (z : Int) : dAbs [.int z] = some (.val (.int z.natAbs)) := by rw [← abs_nat]; rfl
@[simp] theorem e_int (z : Int) : dInt [.int z] = some (.val (.int z)) := rfl
@[simp] theorem e_intb (b : Bool) : dInt [.bool b] = some (.val (.int (if b then 1 else 0))) := rfl
end
@[simp] theorem atI0 {α : Type} (a : α) (l : List α) : L2.atI (a :: l) 0 = some a := by
  unfold L2.atI L2.ixN
  rw [if_pos (Int.le_refl _), if_pos (by simp)]
  rfl
@[simp] theorem atI1 {α : Type} (a b : α) (l : List α) : L2.atI (a :: b :: l) 1 = some b := by
  unfold L2.atI L2.ixN
  rw [if_pos (by decide), if_pos (by simp; omega)]
  rfl

/-! ### gcd -/
theorem fmod_nat (a b : Nat) : Int.fmod (a : Int) (b : Int) = ((a % b : Nat) : Int) := by
  rw [Int.fmod_eq_emod_of_nonneg _ (Int.natCast_nonneg b)]
  exact (Int.natCast_emod a b).symm
theorem common_loop : ∀ (n a b : Nat), b < n →
    whileL (vB (vOp (dCmp fun i j => decide (j < i)) (vVar 1) (vC (.int 0)))) (sPar [0, 1] (lCons (vVar 1) (lCons (vOp dMod (vVar 0) (vVar 1)) (lNil)))) n [.val (.int (a : Int)), .val (.int (b : Int))] = .ok .nx [.val (.int (Nat.gcd a b : Int)), .val (.int 0)]
  | 0, _, _, h => by omega
  | n + 1, a, 0, _ => by simp [whileL]
  | n + 1, a, b + 1, h => by
    have hm : a % (b + 1) < n := by
      have h2 : a % (b + 1) < b + 1 := Nat.mod_lt a (Nat.succ_pos b)
      omega
    have ih := common_loop n (b + 1) (a % (b + 1)) hm
    unfold whileL
    have e : Int.fmod (a : Int) ((b + 1 : Nat) : Int) = ((a % (b + 1) : Nat) : Int) := fmod_nat a (b + 1)
    have e0 : ((b + 1 : Nat) : Int) ≠ 0 := by omega
    have e1 : (0 : Int) < ((b + 1 : Nat) : Int) := by omega
    simp only [Mv.vB, Mv.vD, Mv.vOp, Mv.vVar, Mv.vC, R.bind_ok, List.getElem?_cons_succ, List.getElem?_cons_zero, frzS_val, dCmp_int, opt_some, bOf_bool, e1, decide_true, if_true, Mv.sPar, Mv.lCons, Mv.lNil, Mv.storeE, List.set_cons_zero, List.set_cons_succ, dMod, e0, ne_eq, not_false_eq_true, e]
    rw [ih, Nat.gcd_comm a (b + 1), Nat.gcd_rec (b + 1) a, Nat.gcd_comm]
theorem m_common_eq (a b : Nat) : m_common [.int (a : Int), .int (b : Int)] = some (.ret (.val (.int (Nat.gcd a b : Int)))) := by
  unfold m_common runM g_common
  have h := common_loop (((b : Int)).natAbs + 2) a b (by simp)
  simp only [List.length_cons, List.length_nil, if_true]
  show outOf (sSeq _ (sRetV 0) [.val (.int (a : Int)), .val (.int (b : Int))]) = _
  rw [e_seq, h]
  simp

/-! ### fractions -/
def fr (q : Rat) : D := .tuple [.int q.num, .int q.den]
@[simp] theorem fr0 (q : Rat) : dIx (fr q) (.int 0) = some (.val (.int q.num)) := rfl
@[simp] theorem fr1 (q : Rat) : dIx (fr q) (.int 1) = some (.val (.int q.den)) := rfl
theorem fdiv_of {a g k : Int} (hg : g ≠ 0) (h : a = g * k) : a.fdiv g = k := by rw [h]; exact Int.mul_fdiv_cancel_left k hg
theorem sgn_pos {b : Int} (h : 0 < b) : b.sign = 1 := Int.sign_eq_one_of_pos h
theorem sgn_neg {b : Int} (h : b < 0) : b.sign = -1 := Int.sign_eq_neg_one_of_neg h
theorem fr_divInt {a b : Int} (hb : b ≠ 0) {g : Int} (hg : g = b.sign * (Nat.gcd a.natAbs b.natAbs : Int)) : fr (Rat.divInt a b) = .tuple [.int (a.fdiv g), .int (b.fdiv g)] := by
  have hgp : 0 < Nat.gcd a.natAbs b.natAbs := Nat.gcd_pos_of_pos_right _ (by omega)
  obtain ⟨k, hk⟩ : ((Nat.gcd a.natAbs b.natAbs : Nat) : Int) ∣ a := Int.ofNat_dvd_left.mpr (Nat.gcd_dvd_left _ _)
  obtain ⟨l, hl⟩ : ((Nat.gcd a.natAbs b.natAbs : Nat) : Int) ∣ b := Int.ofNat_dvd_left.mpr (Nat.gcd_dvd_right _ _)
  have gc : b.gcd a = Nat.gcd a.natAbs b.natAbs := by rw [Int.gcd_comm]; rfl
  unfold fr
  rw [Rat.num_divInt, Rat.den_divInt, if_neg hb, gc]
  generalize Nat.gcd a.natAbs b.natAbs = G at *
  have hG : (G : Int) ≠ 0 := by omega
  have e1 : b.sign * a / (G : Int) = b.sign * k := by
    rw [hk, show b.sign * ((G : Int) * k) = (G : Int) * (b.sign * k) by rw [Int.mul_left_comm]]
    exact Int.mul_ediv_cancel_left _ hG
  have e2 : ((b.natAbs / G : Nat) : Int) = b.sign * l := by
    rw [Int.natCast_ediv]
    have : (b.natAbs : Int) = (G : Int) * (b.sign * l) := by
      rw [Int.mul_left_comm, ← hl, Int.sign_mul_self]
    rw [this]
    exact Int.mul_ediv_cancel_left _ hG
  have sq : b.sign * b.sign = 1 := by
    rcases Int.lt_or_gt_of_ne hb with h | h
    · rw [sgn_neg h]; rfl
    · rw [sgn_pos h]; rfl
  have hg0 : g ≠ 0 := by
    rw [hg]
    rcases Int.lt_or_gt_of_ne hb with h | h
    · rw [sgn_neg h]; omega
    · rw [sgn_pos h]; omega
  have f1 : a.fdiv g = b.sign * k := fdiv_of hg0 (by rw [hg, show b.sign * (G : Int) * (b.sign * k) = (b.sign * b.sign) * ((G : Int) * k) by simp only [Int.mul_assoc, Int.mul_left_comm], sq, Int.one_mul]; exact hk)
  have f2 : b.fdiv g = b.sign * l := fdiv_of hg0 (by rw [hg, show b.sign * (G : Int) * (b.sign * l) = (b.sign * b.sign) * ((G : Int) * l) by simp only [Int.mul_assoc, Int.mul_left_comm], sq, Int.one_mul]; exact hl)
  rw [e1, e2, f1, f2]
theorem log2_lt {n k : Nat} (hk : 0 < k) (h : n < 2 ^ k) : n.log2 < k := by
  by_cases h0 : n = 0
  · subst h0; simpa using hk
  · exact
                                                                                                                  (Nat.log2_lt h0).mpr h
theorem gcd_small {a b : Int} (hb : b ≠ 0) (h : b.natAbs < 2 ^ 9000) : (Nat.gcd a.natAbs b.natAbs).log2 < 9000 :=
  log2_lt (by decide) (Nat.lt_of_le_of_lt (Nat.le_of_dvd (by omega) (Nat.gcd_dvd_right _ _)) h)
theorem lim_is : LIM = 1000000 := rfl
theorem m_reduced_eq {a b : Int} (hb : b ≠ 0) (hs : b.natAbs < 2 ^ 9000) : m_reduced [.int a, .int b] = some (.ret (.val (fr (Rat.divInt a b)))) := by
  have hgp : 0 < Nat.gcd a.natAbs b.natAbs := Nat.gcd_pos_of_pos_right _ (by omega)
  have hl := gcd_small (a := a) hb hs
  rcases Int.lt_or_gt_of_ne hb with h | h
  · rw [fr_divInt hb (g := 0 - (Nat.gcd a.natAbs b.natAbs : Int)) (by rw [sgn_neg h]; omega)]
    simp [m_reduced, g_reduced, runM, startE, abs_nat, m_common_eq, h, show (0 : Int) - (Nat.gcd a.natAbs b.natAbs : Int) ≠ 0 by omega, show (-(Nat.gcd a.natAbs b.natAbs : Int)) ≠ 0 by omega, hl, hb, lim_is]
  · rw [fr_divInt hb (g := (Nat.gcd a.natAbs b.natAbs : Int)) (by rw [sgn_pos h]; omega)]
    simp [m_reduced, g_reduced, runM, startE, abs_nat, m_common_eq, Int.not_lt.mpr (Int.le_of_lt h), show ((Nat.gcd a.natAbs b.natAbs : Nat) : Int) ≠ 0 by omega, hl, hb, lim_is]

/-! ### small fractions; what the texts about them compute -/
def Bq (q : Rat) : Prop := q.num.natAbs < 2 ^ 4000 ∧ q.den < 2 ^ 4000
theorem mul_lt {a b n m : Nat} (h1 : a < 2 ^ n) (h2 : b < 2 ^ m) : a * b < 2 ^ (n + m) := by
  rw [Nat.pow_add]
  exact Nat.mul_lt_mul'' h1 h2
theorem mulOk_of {i j : Int} (h1 : i.natAbs < 2 ^ 40000) (h2 : j.natAbs < 2 ^ 40000) : mulOk i j := by
  have e1 := log2_lt (k := 40000) (by decide) h1
  have e2 := log2_lt (k := 40000) (by decide) h2
  exact .inl (by omega)
theorem up {n k m : Nat} (h : n < 2 ^ k) (hk : k ≤ m) : n < 2 ^ m := Nat.lt_of_lt_of_le h (Nat.pow_le_pow_right (by decide) hk)
theorem mul_nn {a b : Rat} (ha : Bq a) (hb : Bq b) : mulOk a.num b.num := mulOk_of (up ha.1 (by decide)) (up hb.1 (by decide))
theorem mul_nd {a b : Rat} (ha : Bq a) (hb : Bq b) : mulOk a.num b.den := mulOk_of (up ha.1 (by decide)) (up (by simpa using hb.2) (by decide))
theorem mul_dd {a b : Rat} (ha : Bq a) (hb : Bq b) : mulOk (a.den : Int) b.den := mulOk_of (up (by simpa using ha.2) (by decide)) (up (by simpa using hb.2) (by decide))
theorem dd_ne (a b : Rat) : (a.den : Int) * b.den ≠ 0 := by
  have h1 := a.den_pos
  have h2 := b.den_pos
  exact Int.mul_ne_zero (by omega) (by omega)
theorem dd_small {a b : Rat} (ha : Bq a) (hb : Bq b) : ((a.den : Int) * b.den).natAbs < 2 ^ 9000 := by
  rw [Int.natAbs_mul]
  exact up (mul_lt (by simpa using ha.2) (by simpa using hb.2)) (by decide)
theorem den0 (a : Rat) : (a.den : Int) ≠ 0 := by have := a.den_pos; omega
theorem less_val (a b : Rat) : Rat.divInt (a.num * b.den - b.num * a.den) (a.den * b.den) = a - b := by
  conv => rhs; rw [← Rat.num_divInt_den a, ← Rat.num_divInt_den b]
  rw [Rat.divInt_sub_divInt _ _ (den0 a) (den0 b)]
theorem add_val (a b : Rat) : Rat.divInt (a.num * b.den + b.num * a.den) (a.den * b.den) = a + b := by
  conv => rhs; rw [← Rat.num_divInt_den a, ← Rat.num_divInt_den b]
  rw [Rat.divInt_add_divInt _ _ (den0 a) (den0 b)]
theorem mul_val (a b : Rat) : Rat.divInt (a.num * b.num) (a.den * b.den) = a * b := by
  conv => rhs; rw [← Rat.num_divInt_den a, ← Rat.num_divInt_den b]
  rw [Rat.divInt_mul_divInt]
theorem m_less_eq {a b : Rat} (ha : Bq a) (hb : Bq b) : m_less [fr a, fr b] = some (.ret (.val (fr (a - b)))) := by
  simp [m_less, g_less, runM, startE, mul_nd ha hb, mul_nd hb ha, mul_dd ha hb, m_reduced_eq (dd_ne a b) (dd_small ha hb), less_val]
def cmpI (a b : Rat) : Int := (if b < a then 1 else 0) - (if a < b then 1 else 0)
theorem m_compared_eq {a b : Rat} (ha : Bq a) (hb : Bq b) : m_compared [fr a, fr b] = some (.ret (.val (.int (cmpI a b)))) := by
  simp [m_compared, g_compared, runM, startE, mul_nd ha hb, mul_nd hb ha, cmpI, Rat.lt_iff]
theorem cmpI_le (a b : Rat) : cmpI a b ≤ 0 ↔ a ≤ b := by unfold cmpI; split <;> split <;> grind
theorem cmpI_lt (a b : Rat) : cmpI a b < 0 ↔ a < b := by unfold cmpI; split <;> split <;> grind
theorem cmpI_gt (a b : Rat) : 0 < cmpI a b ↔ b < a := by unfold cmpI; split <;> split <;> grind
end Fr

namespace Fr
open PySem Mv Sh

theorem shaped_int (a : Int) : SeqAt.shaped (.int a) = true := by simp [SeqAt.shaped, PyData.canLay0, PyData.depth]
theorem shaped_bool (a : Bool) : SeqAt.shaped (.bool a) = true := by simp [SeqAt.shaped, PyData.canLay0, PyData.depth]
@[simp] theorem dEq_int (a b : Int) : dEq (.int a) (.int b) = some (.val (.bool (decide (a = b)))) := by
  rw [dEq]
  · rw [if_pos ⟨shaped_int a, shaped_int b⟩]
    simp only [PyData.eqv]
    rw [show (a == b) = decide (a = b) from rfl]
  · intro _ _ h; cases h
@[simp] theorem dNe_int (a b : Int) : dNe (.int a) (.int b) = some (.val (.bool (!decide (a = b)))) := by
  rw [dNe]
  · rw [if_pos ⟨shaped_int a, shaped_int b⟩]
    simp only [PyData.eqv]
    rw [show (a == b) = decide (a = b) from rfl]
  · intro _ _ h; cases h
@[simp] theorem dEq_str (a b : Str) : dEq (.str a) (.str b) = some (.val (.bool (decide (a = b)))) := rfl
@[simp] theorem dNe_str (a b : Str) : dNe (.str a) (.str b) = some (.val (.bool (!decide (a = b)))) := rfl
theorem shared_loop : ∀ (n a b : Nat), b < n →
    whileL (vB (vOp dNe (vVar 1) (vC (.int 0)))) (sPar [0, 1] (lCons (vVar 1) (lCons (vOp dMod (vCb dInt (vCons (vVar 0) (vNil))) (vVar 1)) (lNil)))) n [.val (.int (a : Int)), .val (.int (b : Int))] = .ok .nx [.val (.int (Nat.gcd a b : Int)), .val (.int 0)]
  | 0, _, _, h => by omega
  | n + 1, a, 0, _ => by simp [whileL]
  | n + 1, a, b + 1, h => by
    have hm : a % (b + 1) < n := by
      have h2 : a % (b + 1) < b + 1 := Nat.mod_lt a (Nat.succ_pos b)
      omega
    have ih := shared_loop n (b + 1) (a % (b + 1)) hm
    unfold whileL
    have e : Int.fmod (a : Int) ((b + 1 : Nat) : Int) = ((a % (b + 1) : Nat) : Int) := fmod_nat a (b + 1)
    have e0 : ((b + 1 : Nat) : Int) ≠ 0 := by omega
    simp only [e_vb, e_vd, e_op, e_var, e_c, R.bind_ok, List.getElem?_cons_succ, List.getElem?_cons_zero, frzS_val, dNe_int, opt_some, bOf_bool, e0, decide_false, Bool.not_false, if_true, e_par, e_lcons, e_lnil, e_cb, e_cons, e_vnil, e_int, e_store1, e_store0, List.set_cons_zero, List.set_cons_succ, dMod, ne_eq, not_false_eq_true, e]
    rw [ih, Nat.gcd_comm a (b + 1), Nat.gcd_rec (b + 1) a, Nat.gcd_comm]
theorem m_shared_eq (a b : Int) : m__law_shared [.int a, .int b] = some (.ret (.val (.int (Nat.gcd a.natAbs b.natAbs : Int)))) := by
  have h := shared_loop (b.natAbs + 2) a.natAbs b.natAbs (by omega)
  simp only [m__law_shared, runM, g__law_shared, List.length_cons, List.length_nil, if_true, e_seq]
  simp [startE, h]
theorem m_ratio_eq {a b : Int} (hb : b ≠ 0) (hs : b.natAbs < 2 ^ 9000) : m__law_ratio [.int a, .int b] = some (.ret (.val (fr (Rat.divInt a b)))) := by
  have hgp : 0 < Nat.gcd a.natAbs b.natAbs := Nat.gcd_pos_of_pos_right _ (by omega)
  have hl := gcd_small (a := a) hb hs
  have ok1 : mulOk ((Nat.gcd a.natAbs b.natAbs : Nat) : Int) 1 := .inr (.inr ⟨by decide, by decide⟩)
  have ok2 : mulOk ((Nat.gcd a.natAbs b.natAbs : Nat) : Int) (-1) := .inr (.inr ⟨by decide, by decide⟩)
  rcases Int.lt_or_gt_of_ne hb with h | h
  · rw [fr_divInt hb (g := -(Nat.gcd a.natAbs b.natAbs : Int)) (by rw [sgn_neg h]; omega)]
    simp [m__law_ratio, g__law_ratio, runM, startE, m_shared_eq, h, ok2, Int.not_lt.mpr (Int.le_of_lt h), hl, hb, lim_is]
  · rw [fr_divInt hb (g := (Nat.gcd a.natAbs b.natAbs : Int)) (by rw [sgn_pos h]; omega)]
    simp [m__law_ratio, g__law_ratio, runM, startE, m_shared_eq, h, ok1, hl, hb, lim_is]
theorem m_minus_eq {a b : Rat} (ha : Bq a) (hb : Bq b) : m__law_minus [fr a, fr b] = some (.ret (.val (fr (a - b)))) := by
  simp [m__law_minus, g__law_minus, runM, startE, mul_nd ha hb, mul_nd hb ha, mul_dd ha hb, m_ratio_eq (dd_ne a b) (dd_small ha hb), less_val]
theorem m_by_eq {a b : Rat} (ha : Bq a) (hb : Bq b) : m__law_by [fr a, fr b] = some (.ret (.val (fr (a * b)))) := by
  simp [m__law_by, g__law_by, runM, startE, mul_nn ha hb, mul_dd ha hb, m_ratio_eq (dd_ne a b) (dd_small ha hb), mul_val]
theorem m_below_eq {a b : Rat} (ha : Bq a) (hb : Bq b) : m__law_below [fr a, fr b] = some (.ret (.val (.bool (decide (a < b))))) := by
  simp [m__law_below, g__law_below, runM, startE, mul_nd ha hb, mul_nd hb ha, Rat.lt_iff]

/-! ### sums -/
/-- q is a whole number of N-ths, of at most M of them -/
def Fx (N M : Nat) (q : Rat) : Prop := ∃ z : Int, z.natAbs ≤ M ∧ q = Rat.divInt z N
theorem Fx.num {N M : Nat} {q : Rat} (hN : 0 < N) (h : Fx N M q) : q.num.natAbs ≤ M ∧ q.den ≤ N := by
  obtain ⟨z, hz, rfl⟩ := h
  rw [Rat.num_divInt, Rat.den_divInt, if_neg (by omega), sgn_pos (by omega), Int.one_mul]
  refine ⟨?_, ?_⟩
  · rw [Int.natAbs_ediv_of_dvd (Int.gcd_dvd_right ..)]
    exact Nat.le_trans (Nat.div_le_self _ _) hz
  · exact Nat.le_trans (Nat.div_le_self _ _) (Nat.le_of_eq (Int.natAbs_natCast N))
theorem Fx.bq {N M : Nat} {q : Rat} (h : Fx N M q) (hN : 0 < N ∧ N < 2 ^ 4000) (hM : M < 2 ^ 4000) : Bq q :=
  let ⟨h1, h2⟩ := h.num hN.1
  ⟨Nat.lt_of_le_of_lt h1 hM, Nat.lt_of_le_of_lt h2 hN.2⟩
theorem Fx.mono {N M M' : Nat} {q : Rat} (h : Fx N M q) (le : M ≤ M') : Fx N M' q := let ⟨z, h1, h2⟩ := h; ⟨z, Nat.le_trans h1 le, h2⟩
theorem divInt_eq (z : Int) (N : Nat) : Rat.divInt z N = (z : Rat) / (N : Rat) := by rw [Rat.divInt_eq_div]; rfl
theorem Fx.add {N M M' : Nat} {q r : Rat} (h : Fx N M q) (h' : Fx N M' r) : Fx N (M + M') (q + r) := by
  obtain ⟨z, h1, rfl⟩ := h
  obtain ⟨y, h2, rfl⟩ := h'
  refine ⟨z + y, by omega, ?_⟩
  rw [divInt_eq, divInt_eq, divInt_eq, Rat.div_def, Rat.div_def, Rat.div_def, Rat.intCast_add]
  grind
theorem Fx.sub {N M M' : Nat} {q r : Rat} (h : Fx N M q) (h' : Fx N M' r) : Fx N (M + M') (q - r) := by
  obtain ⟨z, h1, rfl⟩ := h
  obtain ⟨y, h2, rfl⟩ := h'
  refine ⟨z - y, by omega, ?_⟩
  rw [divInt_eq, divInt_eq, divInt_eq, Rat.div_def, Rat.div_def, Rat.div_def, Rat.intCast_sub]
  grind
theorem Fx.mul {N N' M M' : Nat} {q r : Rat} (h : Fx N M q) (h' : Fx N' M' r) : Fx (N * N') (M * M') (q * r) := by
  obtain ⟨z, h1, rfl⟩ := h
  obtain ⟨y, h2, rfl⟩ := h'
  refine ⟨z * y, by rw [Int.natAbs_mul]; exact Nat.mul_le_mul h1 h2, ?_⟩
  rw [Rat.divInt_mul_divInt]
  simp
theorem Fx.zero {N M : Nat} : Fx N M 0 := ⟨0, by omega, by rw [divInt_eq]; grind⟩
/-- in finer parts -/
theorem Fx.fine {N M : Nat} (k : Nat) (hk : 0 < k) {q : Rat} (h : Fx N M q) : Fx (N * k) (M * k) q := by
  have hk' : (0 : Rat) < (k : Rat) := Rat.natCast_pos.mpr hk
  have : Fx k k 1 := ⟨k, by simp, by rw [divInt_eq, Rat.intCast_natCast]; grind⟩
  have h2 := h.mul this
  rwa [Rat.mul_one] at h2
def sumQ : List Rat → Rat
  | [] => 0
  | q :: qs => q + sumQ qs
theorem Fx.sum {N M : Nat} : ∀ {qs : List Rat}, (∀ q ∈ qs, Fx N M q) → Fx N (qs.length * M) (sumQ qs)
  | [], _ => Fx.zero
  | q :: qs, h => by
    have h1 := h q List.mem_cons_self
    have h2 := Fx.sum (qs := qs) fun r hr => h r (List.mem_cons_of_mem _ hr)
    rw [List.length_cons, Nat.succ_mul, Nat.add_comm]
    exact h1.add h2

theorem forL_nx {pat : D → En → Option En} {b : MS} {d : D} {ds : List D} {e e1 e2 : En} (h1 : pat d e = some e1) (h2 : b e1 = .ok .nx e2) : forL pat b (d :: ds) e = forL pat b ds e2 := by
  rw [forL, h1]
  show (match b e1 with | _ => _) = _
  rw [h2]
@[simp] theorem p_nm (i : Nat) (d : D) (en : En) : pNm i d en = some (en.set i (.val d)) := rfl
@[simp] theorem p_nil (en : En) : pNil [] en = some en := rfl
@[simp] theorem p_cons (g : D → En → Option En) (h : List D → En → Option En) (d : D) (ds : List D) (en : En) : pCons g h (d :: ds) en = (g d en).bind (h ds) := rfl
@[simp] theorem p_tup (h : List D → En → Option En) (ds : List D) (en : En) : pTup h (.tuple ds) en = h ds en := rfl
theorem added_loop {N M : Nat} (hN : 0 < N ∧ N < 2 ^ 4000) (b : MS)
    (hb : b = sSet 1 (vCall m_reduced (vCons (vOp dAdd (vOp dMul (vIxv 1 (vC (.int 0))) (vVar 3)) (vOp dMul (vVar 2) (vIxv 1 (vC (.int 1))))) (vCons (vOp dMul (vIxv 1 (vC (.int 1))) (vVar 3)) (vNil))))) :
    ∀ (qs : List Rat) (x : Rat) (A : Nat) (s0 s2 s3 : Sl), (∀ q ∈ qs, Fx N M q) → Fx N A x → A + qs.length * M < 2 ^ 4000 → M < 2 ^ 4000 → ∃ t2 t3, forL (pTup (pCons (pNm 2) (pCons (pNm 3) (pNil)))) b (qs.map fr) [s0, .val (fr x), s2, s3] = .ok .nx [s0, .val (fr (x + sumQ qs)), t2, t3]
  | [], x, A, s0, s2, s3, _, _, _, _ => ⟨s2, s3, by rw [sumQ, Rat.add_zero]; rfl⟩
  | q :: qs, x, A, s0, s2, s3, hq, hx, hA, hM => by
    have h1 := hq q List.mem_cons_self
    rw [List.length_cons, Nat.succ_mul] at hA
    obtain ⟨t2, t3, h⟩ := added_loop hN b hb qs (x + q) (A + M) s0 (.val (.int q.num)) (.val (.int q.den)) (fun r hr => hq r (List.mem_cons_of_mem _ hr)) (hx.add h1) (by omega) hM
    have b1 : Bq x := hx.bq hN (by omega)
    have b2 : Bq q := h1.bq hN hM
    refine ⟨t2, t3, ?_⟩
    rw [List.map_cons, forL_nx (e1 := [s0, .val (fr x), .val (.int q.num), .val (.int q.den)]) (e2 := [s0, .val (fr (x + q)), .val (.int q.num), .val (.int q.den)]) (by simp [fr]) ?_, h, sumQ, Rat.add_assoc]
    rw [hb]
    simp [mul_nd b1 b2, mul_nd b2 b1, mul_dd b1 b2, m_reduced_eq (dd_ne x q) (dd_small b1 b2), add_val]
@[simp] theorem i_items (f : M Sl) (s : Sl) (es : List Sl) : vItems f (s :: es) = (vD f (s :: es)).bind itemsOf := rfl
@[simp] theorem e_for (it : M (List D)) (pat : D → En → Option En) (b : MS) (s : Sl) (es : List Sl) : sFor it pat b (s :: es) = (it (s :: es)).bind fun xs e => forL pat b xs e := rfl
theorem m_added_list {N M : Nat} (hN : 0 < N ∧ N < 2 ^ 4000) {qs : List Rat} (hq : ∀ q ∈ qs, Fx N M q) (hA : qs.length * M < 2 ^ 4000) (hM : M < 2 ^ 4000) : m_added [.list (qs.map fr)] = some (.ret (.val (fr (sumQ qs)))) := by
  obtain ⟨t2, t3, h⟩ := added_loop hN _ rfl qs 0 0 (.val (.list (qs.map fr))) .no .no hq Fx.zero (by omega) hM
  rw [Rat.zero_add] at h
  have e0 : PyData.tuple [.int 0, .int 1] = fr 0 := rfl
  simp only [m_added, runM, g_added, List.length_cons, List.length_nil, if_true]
  simp [startE, e0, h]
theorem plus_loop {N M : Nat} (hN : 0 < N) (b : MS)
    (hb : b = sPar [1, 2] (lCons (vOp dAdd (vOp dMul (vVar 1) (vIxv 3 (vC (.int 1)))) (vOp dMul (vIxv 3 (vC (.int 0))) (vVar 2))) (lCons (vOp dMul (vVar 2) (vIxv 3 (vC (.int 1)))) (lNil)))) :
    ∀ (qs : List Rat) (n d : Int) (k : Nat) (s0 s3 : Sl), (∀ q ∈ qs, q.num.natAbs ≤ M ∧ q.den ≤ N) → 0 < d → d ≤ (N ^ k : Nat) → n.natAbs ≤ k * M * N ^ k → (k + qs.length) * M * N ^ (k + qs.length) < 2 ^ 8000 → N ^ (k + qs.length) < 2 ^ 8000 → M < 2 ^ 8000 →
      ∃ n' d' t3, forL (pNm 3) b (qs.map fr) [s0, .val (.int n), .val (.int d), s3] = .ok .nx [s0, .val (.int n'), .val (.int d'), t3] ∧ 0 < d' ∧ d' ≤ (N ^ (k + qs.length) : Nat) ∧ Rat.divInt n' d' = Rat.divInt n d + sumQ qs
  | [], n, d, k, s0, s3, _, h1, h2, _, _, _, _ => ⟨n, d, s3, rfl, h1, h2, by rw [sumQ, Rat.add_zero]⟩
  | q :: qs, n, d, k, s0, s3, hq, h1, h2, h3, h4, h5, h6 => by
    obtain ⟨c1, c2⟩ := hq q List.mem_cons_self
    have hd := q.den_pos
    have el : k + (q :: qs).length = k + 1 + qs.length := by rw [List.length_cons]; omega
    rw [el] at h4 h5
    have hNk : N ^ k ≤ N ^ (k + 1 + qs.length) := Nat.pow_le_pow_right hN (by omega)
    have hMk : k * M * N ^ k ≤ (k + 1 + qs.length) * M * N ^ (k + 1 + qs.length) := Nat.mul_le_mul (Nat.mul_le_mul_right _ (by omega)) hNk
    have hN1 : N ≤ N ^ (k + 1 + qs.length) := by
      calc N = N ^ 1 := (Nat.pow_one N).symm
        _ ≤ _ := Nat.pow_le_pow_right hN (by omega)
    have d2 : d * q.den ≤ (N ^ (k + 1) : Nat) := by
      have : d.natAbs * q.den ≤ N ^ k * N := Nat.mul_le_mul (by omega) c2
      rw [← Nat.pow_succ] at this
      have e : d * q.den = ((d.natAbs * q.den : Nat) : Int) := by rw [Int.natCast_mul]; congr 1; omega
      rw [e]
      exact_mod_cast this
    have n2 : (n * q.den + q.num * d).natAbs ≤ (k + 1) * M * N ^ (k + 1) := by
      have a1 : (n * q.den).natAbs ≤ k * M * N ^ k * N := by rw [Int.natAbs_mul, Int.natAbs_natCast]; exact Nat.mul_le_mul h3 c2
      have a2 : (q.num * d).natAbs ≤ M * N ^ k := by rw [Int.natAbs_mul]; exact Nat.mul_le_mul c1 (by omega)
      have a3 : M * N ^ k ≤ M * N ^ (k + 1) := Nat.mul_le_mul_left _ (Nat.pow_le_pow_right hN (by omega))
      have a4 := Int.natAbs_add_le (n * q.den) (q.num * d)
      have a5 : k * M * N ^ k * N = k * M * N ^ (k + 1) := by rw [Nat.pow_succ, Nat.mul_assoc (k * M)]
      have a6 : (k + 1) * M * N ^ (k + 1) = k * M * N ^ (k + 1) + M * N ^ (k + 1) := by rw [Nat.succ_mul, Nat.add_mul]
      omega
    obtain ⟨n', d', t3, g1, g2, g3, g4⟩ := plus_loop hN b hb qs (n * q.den + q.num * d) (d * q.den) (k + 1) s0 (.val (fr q)) (fun r hr => hq r (List.mem_cons_of_mem _ hr)) (Int.mul_pos h1 (by omega)) d2 n2 h4 h5 h6
    refine ⟨n', d', t3, ?_, g2, by rw [el]; exact g3, ?_⟩
    · rw [List.map_cons, forL_nx (e1 := [s0, .val (.int n), .val (.int d), .val (fr q)]) (e2 := [s0, .val (.int (n * q.den + q.num * d)), .val (.int (d * q.den)), .val (fr q)]) (by simp) ?_, g1]
      have b1 : n.natAbs < 2 ^ 40000 := up (k := 8000) (by omega) (by decide)
      have b2 : d.natAbs < 2 ^ 40000 := up (k := 8000) (by omega) (by decide)
      have b3 : q.num.natAbs < 2 ^ 40000 := up (k := 8000) (by omega) (by decide)
      have b4 : (q.den : Int).natAbs < 2 ^ 40000 := up (k := 8000) (by rw [Int.natAbs_natCast]; omega) (by decide)
      rw [hb]
      simp [mulOk_of b1 b4, mulOk_of b3 b2, mulOk_of b2 b4]
    · rw [g4, sumQ, ← Rat.add_assoc]
      congr 1
      conv => rhs; rw [← Rat.num_divInt_den q]
      rw [Rat.divInt_add_divInt _ _ (by omega) (by omega)]
theorem m_plus_bn {N M : Nat} (hN : 0 < N) {qs : List Rat} {d0 : D} (h0 : d0 = .list (qs.map fr) ∨ d0 = .tuple (qs.map fr)) (hq : ∀ q ∈ qs, q.num.natAbs ≤ M ∧ q.den ≤ N) (h4 : qs.length * M * N ^ qs.length < 2 ^ 8000) (h5 : N ^ qs.length < 2 ^ 8000) (h6 : M < 2 ^ 8000) :
    m__law_plus [d0] = some (.ret (.val (fr (sumQ qs)))) := by
  obtain ⟨n', d', t3, g1, g2, g3, g4⟩ := plus_loop hN _ rfl qs 0 1 0 (.val d0) .no hq (by decide) (by simp) (by simp) (by rw [Nat.zero_add]; exact h4) (by rw [Nat.zero_add]; exact h5) h6
  have hz : Rat.divInt 0 1 = 0 := rfl
  rw [hz, Rat.zero_add] at g4
  rw [Nat.zero_add] at g3
  have hs : d'.natAbs < 2 ^ 9000 := up (k := 8000) (by omega) (by decide)
  have hr := m_ratio_eq (a := n') (b := d') (by omega) hs
  simp only [m__law_plus, runM, g__law_plus, List.length_cons, List.length_nil, if_true]
  rcases h0 with rfl | rfl
  · simp [startE, g1, hr, g4]
  · simp [startE, g1, hr, g4]
theorem m_plus_of {N M : Nat} (hN : 0 < N) {qs : List Rat} {d0 : D} (h0 : d0 = .list (qs.map fr) ∨ d0 = .tuple (qs.map fr)) (hq : ∀ q ∈ qs, Fx N M q) (h4 : qs.length * M * N ^ qs.length < 2 ^ 8000) (h5 : N ^ qs.length < 2 ^ 8000) (h6 : M < 2 ^ 8000) :
    m__law_plus [d0] = some (.ret (.val (fr (sumQ qs)))) := m_plus_bn hN h0 (fun q hq' => (hq q hq').num hN) h4 h5 h6
end Fr

namespace Fr
open PySem Mv Sh

section
variable (f g : M Sl) (l h : M (Option Int)) (c : M Bool) (gs : M (List D)) (s : Sl) (es : List Sl) (i : Nat) (o o2 : D → D → Option Sl) (op : Int → Int → Int) (mb : List D → List D → Option (Out × List D))
@[simp] theorem e_sl : vSl f l h (s :: es) = (vD f (s :: es)).bind fun d e => (l e).bind fun lo e2 => (h e2).bind fun hi e3 => opt (dSl d lo hi) e3 := rfl
def optInt : D → En → R (Option Int)
  | .int i, e => .ok (some i) e
  | _, _ => .bad
@[simp] theorem optInt_int (i : Int) (e : En) : optInt (.int i) e = .ok (some i) e := rfl
@[simp] theorem e_osome : oSome f (s :: es) = (vD f (s :: es)).bind optInt := by
  unfold oSome
  cases vD f (s :: es) with
  | ok d e => cases d <;> rfl
  | exc c fs e => rfl
  | bad => rfl
@[simp] theorem e_onone : oNone (s :: es) = .ok none (s :: es) := rfl
@[simp] theorem e_augS (fk : M Sl) : sAugS i op fk f (s :: es) = ownAt i (s :: es) fun _ _ => (vD fk (s :: es)).bind fun k e => ownAt i e fun _ xs => match dIx (.list xs) k with
  | some (.val (.int x)) => (vD f e).bind fun d e2 => match d with
    | .int y => setAt i k (.int (op x y)) e2
    | _ => .bad
  | _ => .bad := rfl
@[simp] theorem e_store (fk : M Sl) : sStore i fk f (s :: es) = (vD f (s :: es)).bind fun d e => ownAt i e fun _ _ => (vD fk e).bind fun k e2 => setAt i k d e2 := rfl
@[simp] theorem e_app : sApp i f (s :: es) = ownAt i (s :: es) fun _ _ => (vD f (s :: es)).bind fun d e => ownAt i e fun b xs => if xs.length < LIM then .ok .nx (e.set i (.own b (xs ++ [d]))) else .bad := rfl
@[simp] theorem e_len : vLenv i (s :: es) = match (s :: es)[i]? with
  | some (.val d) => opt (dLen [d]) (s :: es)
  | some (.own _ xs) => .ok (.val (.int xs.length)) (s :: es)
  | _ => .bad := rfl
@[simp] theorem e_callB : vCallB i mb gs (s :: es) = ownE i (s :: es) fun _ _ => (gs (s :: es)).bind fun ds e => ownE i e fun b xs => callB i (mb xs ds) b e := rfl
@[simp] theorem e_aug : sAug i op f (s :: es) = match (s :: es)[i]? with
  | some (.val (.int x)) => (vD f (s :: es)).bind fun d e => match d with
    | .int y => .ok .nx (e.set i (.val (.int (op x y))))
    | _ => .bad
  | _ => .bad := rfl
@[simp] theorem e_rng1 : vRng1 gs (s :: es) = (gs (s :: es)).bind rngR := rfl
theorem rng_nat {n : Nat} (h : n < 1000000) (e : En) : rngR [.int (n : Int)] e = .ok (rngD 0 n) e := by
  show (if (n : Int).natAbs < 1000000000 then R.ok (rngD 0 (n : Int).toNat) e else .bad) = _
  rw [if_pos (by omega),
                                                                                                                Int.toNat_natCast]
@[simp] theorem e_enum : vEnum gs (s :: es) = (gs (s :: es)).bind fun ds e => match ds with
    | [d] => match seqOf d with
      | some es => .ok (enumD es) e
      | none => .bad
    | _ => .bad := rfl
@[simp] theorem e_zip : vZip gs (s :: es) = (gs (s :: es)).bind fun ds e => match ds with
    | [d, d2] => match seqOf d, seqOf d2 with
      | some es, some es2 => .ok (zipD es es2) e
      | _, _ => .bad
    | _ => .bad := rfl
@[simp] theorem e_asg (pat : D → En → Option En) : sAsg pat f (s :: es) = (vD f (s :: es)).bind fun d e => match pat d e with
  | some e2 => .ok .nx e2
  | none => .bad := rfl
@[simp] theorem e_star : vStar f gs (s :: es) = (vD f (s :: es)).bind fun d e => match seqOf d with
  | some xs => (gs e).bind fun ds e2 => .ok (xs ++ ds) e2
  | none => .bad := rfl
@[simp] theorem e_lc (it : M (List D)) (pat : D → En → Option En) (tt : M Bool) (el : M Sl) (vs : List Nat) : vLc it pat tt el vs (s :: es) = (it (s :: es)).bind fun xs e => if noOwn e vs = true ∧ xs.length ≤ LIM then
  (match lcL pat tt el vs xs (wipeE e vs) with
    | .ok ys e' => .ok (.own false ys) (backE e' e vs)
    | _ => .bad) else .bad := rfl
@[simp] theorem e_yes : bYes (s :: es) = .ok true (s :: es) := rfl
@[simp] theorem e_ownAt (k : Bool → List D → R Fl) : ownAt i (s :: es) k = match (s :: es)[i]? with
  | some (.own b xs) => k b xs
  | _ => .bad := rfl
@[simp] theorem e_ownE {α : Type} (k : Bool → List D → R α) : ownE i (s :: es) k = match (s :: es)[i]? with
  | some (.own b xs) => k b xs
  | _ => .bad := rfl
@[simp] theorem e_setAt (k : Int) (d : D) : setAt i (.int k) d (s :: es) = ownAt i (s :: es) fun b xs => match L2.ixN xs.length k with
  | some j => .ok .nx ((s :: es).set i (.own b (xs.set j d)))
  | none => .bad := rfl
@[simp] theorem ix40 : L2.ixN 4 0 = some 0 := rfl
@[simp] theorem ix41 : L2.ixN 4 1 = some 1 := rfl
@[simp] theorem ix42 : L2.ixN 4 2 = some 2 := rfl
@[simp] theorem e_outB (r : Sl) (ys : List D) : outB (.ok (.rt r) (.own true ys :: es)) = some (.ret r, ys) := rfl
@[simp high] theorem e_lst0 : vLst vNil (s :: es) = .ok (.own false []) (s :: es) := by
  show opt (if ([] : List D).length ≤ LIM then some (Sl.own false []) else none) (s :: es) = _
  rw [if_pos (show ([] : List D).length ≤ LIM from Nat.zero_le _)]
  rfl
@[simp] theorem seq_list (ds : List D) : seqOf (.list ds) = some ds := rfl
@[simp] theorem seq_tuple (ds : List D) : seqOf (.tuple ds) = some ds := rfl
end
@[simp] theorem len_list (xs : List D) : dLen [.list xs] = some (.val (.int xs.length)) := rfl
@[simp] theorem len_tuple (xs : List D) : dLen [.tuple xs] = some (.val (.int xs.length)) := rfl
@[simp] theorem callB_ret (i : Nat) (r : Sl) (ys : List D) (b : Bool) (e : En) : callB i (some (.ret r, ys)) b e = .ok r (e.set i (.own b ys)) := rfl
@[simp] theorem add_lists (xs ys : List D) : dAdd (.list xs) (.list ys) = if xs.length + ys.length ≤ LIM then some (.own false (xs ++ ys)) else none := rfl
@[simp] theorem add_tuples (xs ys : List D) : dAdd (.tuple xs) (.tuple ys) = if xs.length + ys.length ≤ LIM then some (.val (.tuple (xs ++ ys))) else none := rfl
@[simp] theorem atI2 {α : Type} (a b c : α) (l : List α) : L2.atI (a :: b :: c :: l) 2 = some c := by
  unfold L2.atI L2.ixN
  rw [if_pos (by decide), if_pos (by simp; omega)]
  rfl
@[simp] theorem atI3 {α : Type} (a b c d : α) (l : List α) : L2.atI (a :: b :: c :: d :: l) 3 = some d := by
  unfold L2.atI L2.ixN
  rw [if_pos (by decide), if_pos (by simp; omega)]
  rfl
theorem ix_nat {n j : Nat} (h : j < n) : L2.ixN n (j : Int) = some j := by
  unfold L2.ixN
  rw [if_pos (by omega),
                                                                                                                if_pos (by omega)]
  simp

/-! ### the bag -/
structure Bag (b0 b1 b2 : Int) (cs : List Int) : Prop where
  p0 : 0 ≤ b0
  p1 : 0 ≤ b1
  q1 : b1 < 2147483648
  p2 : 0 ≤ b2
  pc : ∀ c ∈ cs, 0 ≤ c
  len : cs.length ≤ 63
def bagD (b0 b1 b2 : Int) (cs : List Int) : List D := [.int b0, .int b1, .int b2, .list (cs.map PyData.int)]
def BagOk (xs : List D) : Prop := ∃ b0 b1 b2 cs, xs = bagD b0 b1 b2 cs ∧ Bag b0 b1 b2 cs
theorem cut_first {cs : List Int} (h : ∀ c ∈ cs, 0 ≤ c) (lo : Option Int) : ∃ c : Int, 0 ≤ c ∧ L2.atI (cutD (cs.map PyData.int) lo none ++ [PyData.int 0]) 0 = some (.int c) := by
  cases hc : cutD (cs.map PyData.int) lo none with
  | nil => exact ⟨0, by decide, rfl⟩
  | cons d ds =>
    have hm : d ∈ cs.map PyData.int := by
      have : d ∈ cutD (cs.map PyData.int) lo none := by rw [hc]; exact List.mem_cons_self
      exact List.mem_of_mem_drop (List.mem_of_mem_take this)
    obtain ⟨c, hc1, rfl⟩ := List.mem_map.mp hm
    exact ⟨c, h c hc1, by rw [List.cons_append]; exact atI0 _ _⟩
theorem cut_len (xs : List D) (lo hi : Option Int) : (cutD xs lo hi).length ≤ xs.length := by
  unfold cutD
  rw [List.length_take,
                                                                                                                List.length_drop]
  omega
theorem fmod_rng {a m : Int} (h : 0 < m) : 0 ≤ a.fmod m ∧ a.fmod m < m := ⟨Int.fmod_nonneg_of_pos a h, Int.fmod_lt_of_pos a h⟩
theorem fd_nonneg {a m : Int} (ha : 0 ≤ a) (h : 0 < m) : 0 ≤ a.fdiv m := by rw [Int.fdiv_eq_ediv_of_nonneg _ (Int.le_of_lt h)]; exact Int.ediv_nonneg ha (Int.le_of_lt h)
theorem many_log {many : Int} (h0 : 0 < many) (h1 : many < 2 ^ 64) : many.natAbs.log2 < 9000 := by
  have := log2_lt (n := many.natAbs) (k := 64) (by decide) (by omega)
  omega
theorem log7 : Nat.log2 7 < 9000 := by decide
theorem take_ok {xs : List D} (hb : BagOk xs) {many : Int} (h0 : 0 < many) (h1 : many < 2 ^ 64) : ∃ v ys, m__law_take xs [.int many] = some (.ret (.val (.int v)), ys) ∧ 0 ≤ v ∧ v < many ∧ BagOk ys := by
  obtain ⟨b0, b1, b2, cs, rfl, B⟩ := hb
  have hm0 : many ≠ 0 := by omega
  have hlog := many_log h0 h1
  by_cases hz : b0 = 0
  · subst hz
    obtain ⟨c, hc, hcut⟩ := cut_first B.pc (some b2)
    have hl : (cutD (cs.map PyData.int) (some b2) none).length + 1 ≤ 1000000 := by
      have := cut_len (cs.map PyData.int) (some b2) none
      have := B.len
      simp at *
      omega
    have m1 : mulOk b1 48271 := .inr (.inr ⟨by decide, by decide⟩)
    have m2 : mulOk 7919 (b2 + 1) := .inr (.inl ⟨by decide, by decide⟩)
    have hs1 := fmod_rng (a := b1 * 48271 + c.fmod 2147483647 + 7919 * (b2 + 1)) (m := 2147483647) (by decide)
    by_cases hbig : 1000000000000000000 ≤ c
    · have hcp : 0 < c := by omega
      refine ⟨c.fmod many, bagD (c.fdiv many) ((b1 * 48271 + c.fmod 2147483647 + 7919 * (b2 + 1)).fmod 2147483647) (b2 + 1) cs, ?_, (fmod_rng h0).1, (fmod_rng h0).2, _, _, _, _, rfl, ⟨fd_nonneg hc h0, hs1.1, by omega, by have := B.p2; omega, B.pc, B.len⟩⟩
      simp [m__law_take, g__law_take, runB, startE, bagD, lim_is, hl, hcut, dPow, hbig, m1, m2, dMod, hcp, hm0, hlog]
    · generalize hS : (b1 * 48271 + c.fmod 2147483647 + 7919 * (b2 + 1)).fmod 2147483647 = S at hs1
      have m3 : mulOk (S + 1) 39373 := .inr (.inr ⟨by decide, by decide⟩)
      have hb := fmod_rng (a := (S + 1) * 39373) (m := 1000000007) (by decide)
      generalize hB : ((S + 1) * 39373).fmod 1000000007 = T at hb
      have m4 : mulOk T T := .inr (.inl ⟨by omega, by omega⟩)
      have m5 : mulOk ((T * T).fmod 998244353) 30011 := .inr (.inr ⟨by decide, by decide⟩)
      refine ⟨((((T * T).fmod 998244353 * 30011).fmod 998244353).fdiv 7).fmod many, bagD 0 S (b2 + 1) cs, ?_, (fmod_rng h0).1, (fmod_rng h0).2, _, _, _, _, rfl, ⟨by decide, hs1.1, by omega, by have := B.p2; omega, B.pc, B.len⟩⟩
      simp [m__law_take, g__law_take, runB, startE, bagD, lim_is, hl, hcut, dPow, hbig, m1, m2, dMod, hm0, hlog, hS, m3, hB, m4, m5, log7]
  · have hp : 0 < b0 := by have := B.p0; omega
    refine ⟨b0.fmod many, bagD (b0.fdiv many) b1 b2 cs, ?_, (fmod_rng h0).1, (fmod_rng h0).2, _, _, _, _, rfl, ⟨fd_nonneg B.p0 h0, B.p1, B.q1, B.p2, B.pc, B.len⟩⟩
    simp [m__law_take, g__law_take, runB, startE, bagD, hz, hp, dMod, hm0, hlog]
theorem at_mem {ds : List D} {v : Int} (h0 : 0 ≤ v) (h1 : v < ds.length) : ∃ d, L2.atI ds v = some d ∧ d ∈ ds := by
  have hj : v.toNat < ds.length := by omega
  refine ⟨ds[v.toNat], ?_, List.getElem_mem hj⟩
  have e := ix_nat hj
  rw [show ((v.toNat : Nat) : Int) = v by omega] at e
  unfold L2.atI
  rw [e]
  exact List.getElem?_eq_getElem hj
theorem one_list {xs : List D} (hb : BagOk xs) {ds : List D} (h0 : ds ≠ []) (h1 : ds.length < 1000000) : ∃ v ys, m__law_one xs [.list ds] = some (.ret (.val v), ys) ∧ v ∈ ds ∧ BagOk ys := by
  have hl : 0 < ds.length := List.length_pos_iff.mpr h0
  obtain ⟨v, ys, h, h2, h3, h4⟩ := take_ok hb (many := ds.length) (by omega) (by omega)
  obtain ⟨d, h5, h6⟩ := at_mem h2 h3
  refine ⟨d, ys, ?_, h6, h4⟩
  simp [m__law_one, g__law_one, runB, startE, h, h5]
mutual
theorem eqv_self : ∀ d : D, d.canLay0 = true → PyData.eqv d d = true
  | .none, _ =>
                                                                                                                by simp [PyData.eqv]
  | .bool _, _ =>
                                                                                                                by simp [PyData.eqv]
  | .int _, _ =>
                                                                                                                by simp [PyData.eqv]
  | .str _, _ =>
                                                                                                                by simp [PyData.eqv]
  | .list xs, h => by simp only [PyData.eqv]; exact eqvs_self xs (by simpa only [PyData.canLay0] using h)
  | .tuple xs, h => by simp only [PyData.eqv]; exact eqvs_self xs (by simpa only [PyData.canLay0] using h)
  | .dict _, h => by simp [PyData.canLay0] at h
theorem eqvs_self : ∀ ds : List D, PyData.canLayAll0 ds = true → PyData.eqvAll ds ds = true
  | [], _ =>
                                                                                                                by simp [PyData.eqvAll]
  | d :: ds, h => by
    have h' : d.canLay0 = true ∧ PyData.canLayAll0 ds = true := by simpa [PyData.canLayAll0] using h
    simp only [PyData.eqvAll, eqv_self d h'.1, eqvs_self ds h'.2, Bool.and_self]
end
/-- what may be compared and told -/
def Tell (d : D) : Prop := SeqAt.shaped d = true ∧ repOk d
theorem shaped_lay {d : D} (h : SeqAt.shaped d = true) : d.canLay0 = true := SeqAt.canLay_of_shaped h
theorem eq_self {d : D} (h : SeqAt.shaped d = true) : dEq d d = some (.val (.bool true)) := by
  have e1 := eqv_self d (shaped_lay h)
  unfold dEq
  split
  · simp
  · rw [if_pos ⟨h, h⟩, e1]
theorem alike_ok {d : D} (h : Tell d) : m__law_alike [d, d] = some (.ret (.val (.bool true))) := by
  simp [m__law_alike, g__law_alike, runM, startE, eq_self h.1, dRepr, h.2]
end Fr

namespace Fr
open PySem Mv Sh

@[simp] theorem min_int (a b : Int) : dMin [.int a, .int b] = some (.val (.int (min a b))) := rfl
@[simp] theorem max_int (a b : Int) : dMax [.int a, .int b] = some (.val (.int (max a b))) := rfl
def prD (a b : Int) : D := .tuple [.int a, .int b]
theorem bounds_ok {xs : List D} (hb : BagOk xs) {most : Int} (h0 : 0 ≤ most) (h1 : most < 1000000) : ∃ a b ys, m__law_bounds xs [.int most] = some (.ret (.val (prD a b)), ys) ∧ 0 ≤ a ∧ a ≤ b ∧ b ≤ most ∧ BagOk ys := by
  obtain ⟨v, y1, e1, v0, v1, B1⟩ := take_ok hb (many := most + 1) (by omega) (by omega)
  obtain ⟨d, y2, e2, hd, B2⟩ := one_list B1 (ds := [.int 1, .int 2, .int 0, .int most, .int v]) (by simp) (by simp)
  obtain ⟨one, rfl, o0, o1⟩ : ∃ z : Int, d = .int z ∧ 0 ≤ z ∧ z < 1000002 := by
    simp only [List.mem_cons, List.not_mem_nil, or_false] at hd
    rcases hd with rfl | rfl | rfl | rfl | rfl
    · exact ⟨1, rfl, by omega, by omega⟩
    · exact ⟨2, rfl, by omega, by omega⟩
    · exact ⟨0, rfl, by omega, by omega⟩
    · exact ⟨most, rfl, by omega, by omega⟩
    · exact ⟨v, rfl, by omega, by omega⟩
  obtain ⟨u, y3, e3, u0, u1, B3⟩ := take_ok B2 (many := 4) (by omega) (by omega)
  obtain ⟨d, y4, e4, hd, B4⟩ := one_list B3 (ds := [.int one, .int (one + 1), .int one, .int most, .int (2 * one), .int (one + u)]) (by simp) (by simp)
  obtain ⟨other, rfl, p0⟩ : ∃ z : Int, d = .int z ∧ 0 ≤ z := by
    simp only [List.mem_cons, List.not_mem_nil, or_false] at hd
    rcases hd with rfl | rfl | rfl | rfl | rfl | rfl
    · exact ⟨_, rfl, by omega⟩
    · exact ⟨_, rfl, by omega⟩
    · exact ⟨_, rfl, by omega⟩
    · exact ⟨_, rfl, by omega⟩
    · exact ⟨_, rfl, by omega⟩
    · exact ⟨_, rfl, by omega⟩
  have m2 : mulOk 2 one := .inr (.inl ⟨by decide, by decide⟩)
  refine ⟨min (min one most) (min other most), max (min one most) (min other most), y4, ?_, by omega, by omega, by omega, B4⟩
  simp [m__law_bounds, g__law_bounds, runB, startE, lim_is, e1, e2, e3, e4, m2, prD]

/-! ### spans -/
def sp (p : Rat × Rat) : D := .tuple [fr p.1, fr p.2]
@[simp] theorem sp0 (p : Rat × Rat) : dIx (sp p) (.int 0) = some (.val (fr p.1)) := rfl
@[simp] theorem sp1 (p : Rat × Rat) : dIx (sp p) (.int 1) = some (.val (fr p.2)) := rfl
/-- a span of whole numbers of N-ths -/
structure Span (N M : Nat) (p : Rat × Rat) : Prop where
  lo : 0 ≤ p.1
  le : p.1 ≤ p.2
  f1 : Fx N M p.1
  f2 : Fx N M p.2
theorem divInt_fx {z d : Int} {N M : Nat} (hd : 0 < d) (hN : 0 < N) {k : Nat} (hk : (N : Int) = d * k) (hM : (z.natAbs) * k ≤ M) : Fx N M (Rat.divInt z d) := by
  refine ⟨z * k, by rw [Int.natAbs_mul, Int.natAbs_natCast]; exact hM, ?_⟩
  have hk0 : (k : Int) ≠ 0 := by
    intro e
    rw [e, Int.mul_zero] at hk
    omega
  rw [hk, Rat.divInt_mul_right hk0]
theorem divInt_le {a b d : Int} (hd : 0 < d) (h : a ≤ b) : Rat.divInt a d ≤ Rat.divInt b d := by
  rw [Rat.divInt_eq_div, Rat.divInt_eq_div, Rat.div_def, Rat.div_def]
  have hp : (0 : Rat) < (d : Rat) := Rat.intCast_pos.mpr hd
  exact Rat.mul_le_mul_of_nonneg_right (Rat.intCast_le_intCast.mpr h) (Rat.le_of_lt (Rat.inv_pos.mpr hp))
theorem divInt_nn {a d : Int} (hd : 0 < d) (h : 0 ≤ a) : 0 ≤ Rat.divInt a d := Rat.divInt_nonneg h (by omega)
/-- a loop that runs to its end -/
theorem for_inv {pat : D → En → Option En} {b : MS} (I : List D → En → Prop) (stp : ∀ d ds e, I (d :: ds) e → ∃ e1 e2, pat d e = some e1 ∧ b e1 = .ok .nx e2 ∧ I ds e2) : ∀ (ds : List D) (e : En), I ds e → ∃ e', forL pat b ds e = .ok .nx e' ∧ I [] e'
  | [], e, h => ⟨e, rfl, h⟩
  | d :: ds, e, h => by
    obtain ⟨e1, e2, h1, h2, h3⟩ := stp d ds e h
    obtain ⟨e', h4, h5⟩ := for_inv I stp ds e2 h3
    exact ⟨e', by rw [forL_nx h1 h2]; exact h4, h5⟩
theorem rng_len (a : Int) (n : Nat) : (rngD a n).length = n := by simp [rngD]
theorem den_cases {d : D} (h : d ∈ ([.int 1, .int 1, .int 2, .int 3, .int 6] : List D)) : ∃ (z : Int) (k : Nat), d = .int z ∧ 0 < z ∧ z ≤ 6 ∧ (6 : Int) = z * k ∧ k ≤ 6 := by
  simp only [List.mem_cons, List.not_mem_nil, or_false] at h
  rcases h with rfl | rfl | rfl | rfl | rfl
  · exact ⟨1, 6, rfl, by decide, by decide, by decide, by decide⟩
  · exact ⟨1, 6, rfl, by decide, by decide, by decide, by decide⟩
  · exact ⟨2, 3, rfl, by decide, by decide, by decide, by decide⟩
  · exact ⟨3, 2, rfl, by decide, by decide, by decide, by decide⟩
  · exact ⟨6, 1, rfl, by decide, by decide, by decide, by decide⟩
theorem ratio_k {a z : Int} (z0 : 0 < z) (z6 : z ≤ 1000) : m__law_ratio [.int a, .int z] = some (.ret (.val (fr (Rat.divInt a z)))) :=
  m_ratio_eq (by omega) (up (k := 10) (by omega) (by decide))
def SpI (many most : Nat) (ds : List D) (e : En) : Prop := ∃ (ss : List (Rat × Rat)) (ys : List D) (s4 s5 s6 s7 : Sl), e = [.own true ys, .val (.int many), .val (.int most), .own false (ss.map sp), s4, s5, s6, s7] ∧ BagOk ys ∧ ss.length + ds.length = many ∧ ∀ p ∈ ss, Span 6 (6 * most) p
def spB : MS := sSeq (sSet 5 (vCallB 0 m__law_one (vCons (vLst (vCons (vC (.int 1)) (vCons (vC (.int 1)) (vCons (vC (.int 2)) (vCons (vC (.int 3)) (vCons (vC (.int 6)) (vNil))))))) (vNil)))) (sSeq (sAsg (pTup (pCons (pNm 6) (pCons (pNm 7) (pNil)))) (vCallB 0 m__law_bounds (vCons (vVar 2) (vNil)))) (sApp 3 (vTup (vCons (vCall m__law_ratio (vCons (vVar 6) (vCons (vVar 5) (vNil)))) (vCons (vCall m__law_ratio (vCons (vVar 7) (vCons (vVar 5) (vNil)))) (vNil))))))
theorem spans_step {many most : Nat} (h0 : many < 1000) (h1 : most < 1000000) (d : D) (ds : List D) (e : En) (h : SpI many most (d :: ds) e) : ∃ e1 e2, pNm 4 d e = some e1 ∧ spB e1 = .ok .nx e2 ∧ SpI many most ds e2 := by
  obtain ⟨ss, ys, s4, s5, s6, s7, rfl, B, len, al⟩ := h
  obtain ⟨d5, y2, e2, hd, B2⟩ := one_list B (ds := [.int 1, .int 1, .int 2, .int 3, .int 6]) (by simp) (by simp)
  obtain ⟨z, k, rfl, z0, z6, hk, k6⟩ := den_cases hd
  obtain ⟨a, b, y3, e3, a0, ab, bm, B3⟩ := bounds_ok B2 (most := most) (by omega) (by omega)
  have ra := ratio_k (a := a) z0 (by omega)
  have rb := ratio_k (a := b) z0 (by omega)
  rw [List.length_cons] at len
  have hlen : ss.length < 1000000 := by omega
  refine ⟨[.own true ys, .val (.int many), .val (.int most), .own false (ss.map sp), .val d, s5, s6, s7], [.own true y3, .val (.int many), .val (.int most), .own false ((ss ++ [(Rat.divInt a z, Rat.divInt b z)]).map sp), .val d, .val (.int z), .val (.int a), .val (.int b)], rfl, ?_, ss ++ [(Rat.divInt a z, Rat.divInt b z)], y3, _, _, _, _, rfl, B3, ?_, fun p hp => ?_⟩
  · simp [spB, lim_is, e2, e3, prD, ra, rb, hlen, sp]
  · rw [List.length_append,
                                                                                                                  List.length_singleton]
    omega
  · rcases List.mem_append.mp hp with
                                                                                                                  hp | hp
    · exact al p hp
    · cases List.mem_singleton.mp hp
      have ka : a.natAbs * k ≤ most * 6 := Nat.mul_le_mul (by omega) k6
      have kb : b.natAbs * k ≤ most * 6 := Nat.mul_le_mul (by omega) k6
      rw [Nat.mul_comm most 6] at ka kb
      exact ⟨divInt_nn z0 a0, divInt_le z0 ab, divInt_fx z0 (by decide) hk ka, divInt_fx z0 (by decide) hk kb⟩
theorem spans_ok {xs : List D} (hb : BagOk xs) {many : Nat} {most : Nat} (h0 : many < 1000) (h1 : most < 1000000) : ∃ (ss : List (Rat × Rat)) (ys : List D), m__law_spans xs [.int many, .int most] = some (.ret (.val (.tuple (ss.map sp))), ys) ∧ BagOk ys ∧ ss.length = many ∧ ∀ p ∈ ss, Span 6 (6 * most) p := by
  obtain ⟨e', hl, ss, ys, s4, s5, s6, s7, rfl, B, len, al⟩ := for_inv (SpI many most) (spans_step h0 h1) (rngD 0 many) [.own true xs, .val (.int many), .val (.int most), .own false [], .no, .no, .no, .no]
    ⟨[], xs, .no, .no, .no, .no, rfl, hb, by rw [rng_len]; simp, fun p hp => (List.not_mem_nil hp).elim⟩
  refine ⟨ss, ys, ?_, B, by simpa using len, al⟩
  have hr := rng_nat (n := many) (by omega)
  have hl' : forL (pNm 4) spB (rngD 0 many) [.own true xs, .val (.int many), .val (.int most), .own false [], .no, .no, .no, .no] = _ := hl
  unfold spB at hl'
  simp only [m__law_spans, runB, g__law_spans, List.length_cons, List.length_nil, if_true]
  simp [startE, lim_is, hr, hl', dTuple]
end Fr

namespace Fr
open PySem Mv Sh

@[simp] theorem lcL_nil (pat : D → En → Option En) (tt : M Bool) (el : M Sl) (vs : List Nat) (e : En) : lcL pat tt el vs [] e = .ok [] e := rfl
/-- a turn that gives an item; one that gives none -/
theorem lcL_yes {pat : D → En → Option En} {tt : M Bool} {el : M Sl} {vs : List Nat} {d y : D} {ds ys : List D} {e e1 e2 e3 e4 : En} (h1 : pat d e = some e1) (h2 : tt e1 = .ok true e2) (h3 : vD el e2 = .ok y e3) (h4 : lcL pat tt el vs ds (wipeE e3 vs) = .ok ys e4) :
    lcL pat tt el vs (d :: ds) e = .ok (y :: ys) e4 := by
  simp only [lcL, h1, h2, h3, noX_ok, R.bind_ok, if_true, h4]
theorem lcL_no {pat : D → En → Option En} {tt : M Bool} {el : M Sl} {vs : List Nat} {d : D} {ds ys : List D} {e e1 e2 e4 : En} (h1 : pat d e = some e1) (h2 : tt e1 = .ok false e2) (h4 : lcL pat tt el vs ds (wipeE e2 vs) = .ok ys e4) :
    lcL pat tt el vs (d :: ds) e = .ok ys e4 := by
  simp only [lcL, h1, h2, noX_ok, R.bind_ok, Bool.false_eq_true, if_false, h4]
/-- every turn gives an item, and nothing else changes -/
theorem lcL_map {α : Type} {pat : D → En → Option En} {el : M Sl} {vs : List Nat} {e : En} (a : α → D) (b : α → D) : ∀ (xs : List α), (∀ x ∈ xs, ∃ s es e3, pat (a x) e = some (s :: es) ∧ vD el (s :: es) = .ok (b x) e3 ∧ wipeE e3 vs = e) → lcL pat bYes el vs (xs.map a) e = .ok (xs.map b) e
  | [], _ => rfl
  | x :: xs, h => by
    obtain ⟨s, es, e3, h1, h2, h3⟩ := h x List.mem_cons_self
    have ih := lcL_map (pat := pat) (el := el) (vs := vs) (e := e) a b xs fun y hy => h y (List.mem_cons_of_mem _ hy)
    exact lcL_yes h1 rfl h2 (by rw [h3]; exact ih)
/-- only the items that pass -/
theorem lcL_filter {α : Type} {pat : D → En → Option En} {tt : M Bool} {el : M Sl} {vs : List Nat} {e : En} (a : α → D) (p : α → Bool) (b : α → D) : ∀ (xs : List α), (∀ x ∈ xs, ∃ s es e2 e3, pat (a x) e = some (s :: es) ∧ tt (s :: es) = .ok (p x) e2 ∧ (p x = true → vD el e2 = .ok (b x) e3 ∧ wipeE e3 vs = e) ∧ (p x = false → wipeE e2 vs = e)) →
    lcL pat tt el vs (xs.map a) e = .ok ((xs.filter p).map b) e
  | [], _ => rfl
  | x :: xs, h => by
    obtain ⟨s, es, e2, e3, h1, h2, h3, h4⟩ := h x List.mem_cons_self
    have ih := lcL_filter (pat := pat) (tt := tt) (el := el) (vs := vs) (e := e) a p b xs fun y hy => h y (List.mem_cons_of_mem _ hy)
    cases hp : p x with
    | true =>
      rw [hp] at h2
      obtain ⟨h5, h6⟩ := h3 hp
      rw [List.filter_cons_of_pos (by simpa using hp), List.map_cons, List.map_cons]
      exact lcL_yes h1 h2 h5 (by rw [h6]; exact ih)
    | false =>
      rw [hp] at h2
      rw [List.filter_cons_of_neg (by simp [hp]), List.map_cons]
      exact lcL_no h1 h2 (by rw [h4 hp]; exact ih)
/-- sizes of spans -/
structure Spans (N M : Nat) (ss : List (Rat × Rat)) : Prop where
  all : ∀ p ∈ ss, Span N M p
  len : ss.length ≤ 100
  n0 : 0 < N
  n1 : N < 2 ^ 200
  m1 : M < 2 ^ 200
theorem Spans.mono {N M N' M' : Nat} (h : N < 2 ^ 200) : N < 2 ^ 4000 := up h (by decide)
def tot (ss : List (Rat × Rat)) : Rat := sumQ (ss.map (·.2))
theorem Spans.fx2 {N M : Nat} {ss : List (Rat × Rat)} (S : Spans N M ss) : ∀ q ∈ ss.map (·.2), Fx N M q := fun q hq => by
  obtain ⟨p, hp, rfl⟩ :=
                                                                                                                List.mem_map.mp hq
  exact (S.all p hp).f2
theorem Spans.fxTot {N M : Nat} {ss : List (Rat × Rat)} (S : Spans N M ss) : Fx N (100 * M) (tot ss) := by
  have h := Fx.sum S.fx2
  rw [List.length_map] at h
  exact h.mono (Nat.mul_le_mul_right _ S.len)
theorem small300 {M : Nat} (h : M < 2 ^ 200) (k : Nat) (hk : k ≤ 1000) : k * M < 2 ^ 300 := by
  have : k * M ≤ 1000 * M := Nat.mul_le_mul_right _ hk
  have h2 : 1000 * M < 1000 * 2 ^ 200 := Nat.mul_lt_mul_of_pos_left h (by decide)
  have h3 : 1000 * 2 ^ 200 < 2 ^ 300 := by decide
  omega
theorem Spans.nn {N M : Nat} {ss : List (Rat × Rat)} (S : Spans N M ss) : 0 < N ∧ N < 2 ^ 4000 := ⟨S.n0, up S.n1 (by decide)⟩
/-- whatever is at most a thousand times as great is small enough -/
theorem Spans.bq {N M : Nat} {ss : List (Rat × Rat)} (S : Spans N M ss) {k : Nat} (hk : k ≤ 1000) {q : Rat} (h : Fx N (k * M) q) : Bq q := h.bq S.nn (up (small300 S.m1 k hk) (by decide))
theorem Spans.one {N M : Nat} {ss : List (Rat × Rat)} (S : Spans N M ss) {q : Rat} (h : Fx N M q) : Bq q := S.bq (k := 1) (by decide) (by rw [Nat.one_mul]; exact h)
theorem added_tops {N M : Nat} {ss : List (Rat × Rat)} (S : Spans N M ss) : m_added [.list (ss.map fun p => fr p.2)] = some (.ret (.val (fr (tot ss)))) := by
  have h := m_added_list S.nn S.fx2 (up (small300 S.m1 (ss.map (·.2)).length (by rw [List.length_map]; have := S.len; omega)) (by decide)) (up S.m1 (by decide))
  rw [List.map_map] at h
  exact h
/-! ### reach_of -/
def leftOf (ss : List (Rat × Rat)) (p : Rat × Rat) : Rat := p.1 - (tot ss - p.2)
theorem Spans.left {N M : Nat} {ss : List (Rat × Rat)} (S : Spans N M ss) {p : Rat × Rat} (hp : p ∈ ss) : Fx N (101 * M) (tot ss - p.2) ∧ Fx N (102 * M) (leftOf ss p) := by
  have h := S.all p hp
  have h1 : Fx N (101 * M) (tot ss - p.2) := (S.fxTot.sub h.f2).mono (by omega)
  exact ⟨h1, (h.f1.sub h1).mono (by omega)⟩
/-- the greatest of a list, from a first one on -/
def maxQ (q : Rat) : List Rat → Rat
  | [] => q
  | r :: rs => maxQ (if q < r then r else q) rs
def low (ss : List (Rat × Rat)) : Rat := maxQ 0 (ss.map (leftOf ss))
/-! ### the law's own reach -/
/-- numbered items -/
inductive Enu {α : Type} (a : α → D) : List D → List α → Prop
  | nil : Enu a [] []
  | cons {z : Int} {x : α} {ds : List D} {xs : List α} : Enu a ds xs → Enu a (.tuple [.int z, a x] :: ds) (x :: xs)
end Fr

namespace Fr
open PySem Mv Sh

/-! ### closing -/
structure Sz (N M : Nat) : Prop where
  n0 : 0 < N
  n1 : N < 2 ^ 200
  m1 : M < 2 ^ 220
theorem Sz.nn {N M : Nat} (S : Sz N M) : 0 < N ∧ N < 2 ^ 4000 := ⟨S.n0, up S.n1 (by decide)⟩
theorem Sz.sm {N M : Nat} (S : Sz N M) (k : Nat) (hk : k ≤ 1000) : k * M < 2 ^ 300 := up (mul_lt (a := k) (n := 10) (by omega) S.m1) (by decide)
theorem Sz.bq {N M : Nat} (S : Sz N M) {k : Nat} (hk : k ≤ 1000) {q : Rat} (h : Fx N (k * M) q) : Bq q := h.bq S.nn (up (S.sm k hk) (by decide))
theorem fx2 {N M : Nat} {q : Rat} (h : Fx N M q) : Fx N (2 * M) (2 * q) := by
  have : (2 : Rat) * q = q + q := by grind
  rw [this, Nat.two_mul]
  exact h.add h
@[simp] theorem all_bools (bs : List Bool) : dAll [.list (bs.map PyData.bool)] = some (.val (.bool (bs.all id))) := by simp [dAll]
def closesB (ss : List (Rat × Rat)) : Bool := ss.all fun p => decide (p.1 ≤ tot ss - p.2)
theorem lc_tops2 (ss : List (Rat × Rat)) (s0 s1 : Sl) : lcL (pTup (pCons (pNm 2) (pCons (pNm 3) (pNil)))) bYes (vVar 3) [2, 3] (ss.map sp) [s0, s1, .no, .no] = .ok (ss.map fun p => fr p.2) [s0, s1, .no, .no] :=
  lcL_map sp _ ss fun p _ => ⟨s0, [s1, .val (fr p.1), .val (fr p.2)], [s0, s1, .val (fr p.1), .val (fr p.2)], rfl, by simp, rfl⟩
theorem lc_closes {N M : Nat} {ss : List (Rat × Rat)} (S : Spans N M ss) (s0 : Sl) : lcL (pTup (pCons (pNm 2) (pCons (pNm 3) (pNil)))) bYes (vOp (dCmp fun i j => decide (i ≤ j)) (vCall m_compared (vCons (vVar 2) (vCons (vCall m_less (vCons (vVar 1) (vCons (vVar 3) (vNil)))) (vNil)))) (vC (.int 0))) [2, 3] (ss.map sp) [s0, .val (fr (tot ss)), .no, .no] =
    .ok (ss.map fun p => .bool (decide (p.1 ≤ tot ss - p.2))) [s0, .val (fr (tot ss)), .no, .no] :=
  lcL_map sp _ ss fun p hp => by
    have e1 := m_less_eq (S.bq (by decide) S.fxTot) (S.one (S.all p hp).f2)
    have e2 := m_compared_eq (S.one (S.all p hp).f1) (S.bq (by decide) (S.left hp).1)
    have e3 := cmpI_le p.1 (tot ss - p.2)
    exact ⟨s0, [.val (fr (tot ss)), .val (fr p.1), .val (fr p.2)], [s0, .val (fr (tot ss)), .val (fr p.1), .val (fr p.2)], rfl, by simp [e1, e2, e3], rfl⟩
theorem m_closes_eq {N M : Nat} {ss : List (Rat × Rat)} (S : Spans N M ss) : m_closes [.tuple (ss.map sp)] = some (.ret (.val (.bool (closesB ss)))) := by
  have hl : ss.length ≤ 1000000 := by have := S.len; omega
  have h1 := lc_tops2 ss (.val (.tuple (ss.map sp))) .no
  have h2 := lc_closes S (.val (.tuple (ss.map sp)))
  have h3 := added_tops S
  have h4 := all_bools (ss.map fun p => decide (p.1 ≤ tot ss - p.2))
  rw [List.map_map, List.all_map] at h4
  have h4 : dAll [.list (ss.map fun p => .bool (decide (p.1 ≤ tot ss - p.2)))] = some (.val (.bool (closesB ss))) := h4
  simp only [m_closes, runM, g_closes, List.length_cons, List.length_nil, if_true]
  simp [startE, noOwn, wipeE, backE, lim_is, hl, h1, h2, h3, h4]
/-- the heaps, as they are told -/
def heapsF (total : Rat) : List Rat → Rat → Int → List Int
  | [], _, _ => []
  | a :: as, h, k => if k = 0 ∧ total ≤ 2 * (h + a) then 1 :: heapsF total as (h + a) 2 else k :: heapsF total as (h + a) k
theorem m_added2 {N M : Nat} (hN : 0 < N ∧ N < 2 ^ 4000) {a b : Rat} (ha : Fx N M a) (hb : Fx N M b) (hM : 2 * M < 2 ^ 4000) : m_added [.list [fr a, fr b]] = some (.ret (.val (fr (a + b)))) := by
  have h := m_added_list hN (qs := [a, b]) (fun q hq => by
    simp only [List.mem_cons, List.not_mem_nil, or_false] at hq
    rcases hq with rfl | rfl <;> assumption) hM (by omega)
  have e : sumQ [a, b] = a + b := by simp only [sumQ, Rat.add_zero]
  rw [e] at h
  exact h
/-- the amounts that are told -/
def amt (T q : Rat) : Rat := if 2 * q ≤ T then q else T - q
def amts (ss : List (Rat × Rat)) : List Rat := ss.map fun p => amt (tot ss) p.2
theorem Spans.amts {N M : Nat} {ss : List (Rat × Rat)} (S : Spans N M ss) : ∀ q ∈ Fr.amts ss, Fx N (101 * M) q := fun q hq => by
  obtain ⟨p, hp, rfl⟩ :=
                                                                                                                List.mem_map.mp hq
  unfold amt
  split
  · exact (S.all p hp).f2.mono (by omega)
  · exact (S.left hp).1
end Fr

namespace Fr
open PySem Mv Sh

/-! ### the mathematics of closing -/
theorem Span.g0 {N M : Nat} {p : Rat × Rat} (h : Span N M p) : 0 ≤ p.2 := Rat.le_trans h.lo h.le
end Fr

namespace Fr
open PySem Mv Sh

/-! ### the law's own looks -/
theorem kit_ii : L2.kitB "int" "int" = some true := by decide +kernel
theorem kit_ib : L2.kitB "int" "bool" = some false := by decide +kernel
theorem kit_tt : L2.kitB "tuple" "tuple" = some true := by decide +kernel
@[simp] theorem isi_ii (z : Int) : isiD "int" (.int z) = some (.val (.bool true)) := by unfold isiD tyOf; rw [kit_ii]; rfl
@[simp] theorem isi_ib (z : Int) : isiD "bool" (.int z) = some (.val (.bool false)) := by unfold isiD tyOf; rw [kit_ib]; rfl
@[simp] theorem isi_tt (ds : List D) : isiD "tuple" (.tuple ds) = some (.val (.bool true)) := by unfold isiD tyOf; rw [kit_tt]; rfl
@[simp] theorem isi_fr (q : Rat) : isiD "tuple" (fr q) = some (.val (.bool true)) := isi_tt _
@[simp] theorem len_fr (q : Rat) : dLen [fr q] = some (.val (.int 2)) := rfl
@[simp] theorem len_sp (p : Rat × Rat) : dLen [sp p] = some (.val (.int 2)) := rfl
theorem shaped_nil : SeqAt.shaped (.list []) = true := by simp [SeqAt.shaped, PyData.canLay0, PyData.canLayAll0, PyData.depth, PyData.depthAll]
@[simp] theorem eq_nil : dEq (.list []) (.list []) = some (.val (.bool true)) := eq_self shaped_nil
@[simp] theorem ne_nil : dNe (.list []) (.list []) = some (.val (.bool false)) := by
  rw [dNe]
  · rw [if_pos ⟨shaped_nil, shaped_nil⟩, eqv_self _ (shaped_lay shaped_nil)]
    rfl
  · intro _ _ h; cases h
end Fr

namespace Fr
open PySem Mv Sh

end Fr

namespace Fr
open PySem Mv Sh

/-! ### told closings hold -/
def told (ss : List (Rat × Rat)) : D := .tuple [.tuple ((amts ss).map fr), .tuple ((heapsF (sumQ (amts ss)) (amts ss) 0 0).map PyData.int)]
/-! ### scaled spans -/
end Fr

namespace Fr
open PySem Mv Sh

/-! ### right angles -/
def dirs : List (Int × Int) := [(1, 0), (0, 1), (-1, 0), (0, -1)]
theorem plus2 {N M : Nat} (hN : 0 < N) (hn : N < 2 ^ 200) (hM : M < 2 ^ 1000) {a b : Rat} (ha : Fx N M a) (hb : Fx N M b) : m__law_plus [.list [fr a, fr b]] = some (.ret (.val (fr (a + b)))) := by
  have h := m_plus_of hN (qs := [a, b]) (.inl rfl) (fun q h => by
    simp only [List.mem_cons, List.not_mem_nil, or_false] at h
    rcases h with rfl | rfl <;> assumption) (by
      have h2 : N ^ 2 < 2 ^ 400 := by rw [Nat.pow_two]; exact mul_lt hn hn
      exact up (m := 8000) (mul_lt (n := 1002) (m := 400) (mul_lt (a := 2) (n := 2) (by decide) hM) h2) (by decide)) (by
      have h2 : N ^ 2 < 2 ^ 400 := by rw [Nat.pow_two]; exact mul_lt hn hn
      exact up h2 (by decide)) (up hM (by decide))
  have e : sumQ [a, b] = a + b := by simp only [sumQ, Rat.add_zero]
  rw [e] at h
  exact h
/-- what is known of the arrow so far; G is the sum of the greatest -/
structure Arr (G : Rat) (done : List (Rat × Rat)) (r o : Rat) : Prop where
  a1 : r + o ≤ G
  a2 : -(r + o) ≤ G
  a3 : r - o ≤ G
  a4 : -(r - o) ≤ G
  a5 : ∀ p ∈ done, p.1 - (G - p.2) ≤ r ∨ p.1 - (G - p.2) ≤ -r ∨ p.1 - (G - p.2) ≤ o ∨ p.1 - (G - p.2) ≤ -o
theorem Arr.step {G : Rat} {done : List (Rat × Rat)} {r o : Rat} (h : Arr G done r o) {p : Rat × Rat} {a : Rat} (h0 : 0 ≤ p.1) (h1 : p.1 ≤ a) (h2 : a ≤ p.2) {c : Int × Int} (hc : c ∈ dirs) : Arr (G + p.2) (done ++ [p]) (r + a * (c.1 : Rat)) (o + a * (c.2 : Rat)) := by
  obtain ⟨a1, a2, a3, a4, a5⟩ := h
  have old : ∀ r' o' : Rat, r - a ≤ r' → -r - a ≤ -r' → o - a ≤ o' → -o - a ≤ -o' → ∀ q ∈ done, q.1 - (G + p.2 - q.2) ≤ r' ∨ q.1 - (G + p.2 - q.2) ≤ -r' ∨ q.1 - (G + p.2 - q.2) ≤ o' ∨ q.1 - (G + p.2 - q.2) ≤ -o' := fun r' o' b1 b2 b3 b4 q hq => by
    rcases a5 q hq with z | z | z | z
    · left; grind
    · right; left; grind
    · right; right; left; grind
    · right; right; right; grind
  simp only [dirs, List.mem_cons, List.not_mem_nil, or_false] at hc
  rcases hc with rfl | rfl | rfl | rfl
  · have e1 : r + a * ((1 : Int) : Rat) = r + a := by grind
    have e2 : o + a * ((0 : Int) : Rat) = o := by grind
    rw [e1, e2]
    refine ⟨by grind, by grind, by grind, by grind, fun q hq => ?_⟩
    rcases List.mem_append.mp hq with
                                                                                                                  hq | hq
    · exact old _ _ (by grind) (by grind) (by grind) (by grind) q hq
    · cases List.mem_singleton.mp hq; left; grind
  · have e1 : r + a * ((0 : Int) : Rat) = r := by grind
    have e2 : o + a * ((1 : Int) : Rat) = o + a := by grind
    rw [e1, e2]
    refine ⟨by grind, by grind, by grind, by grind, fun q hq => ?_⟩
    rcases List.mem_append.mp hq with
                                                                                                                  hq | hq
    · exact old _ _ (by grind) (by grind) (by grind) (by grind) q hq
    · cases List.mem_singleton.mp hq; right; right; left; grind
  · have e1 : r + a * ((-1 : Int) : Rat) = r - a := by grind
    have e2 : o + a * ((0 : Int) : Rat) = o := by grind
    rw [e1, e2]
    refine ⟨by grind, by grind, by grind, by grind, fun q hq => ?_⟩
    rcases List.mem_append.mp hq with
                                                                                                                  hq | hq
    · exact old _ _ (by grind) (by grind) (by grind) (by grind) q hq
    · cases List.mem_singleton.mp hq; right; left; grind
  · have e1 : r + a * ((0 : Int) : Rat) = r := by grind
    have e2 : o + a * ((-1 : Int) : Rat) = o - a := by grind
    rw [e1, e2]
    refine ⟨by grind, by grind, by grind, by grind, fun q hq => ?_⟩
    rcases List.mem_append.mp hq with
                                                                                                                  hq | hq
    · exact old _ _ (by grind) (by grind) (by grind) (by grind) q hq
    · cases List.mem_singleton.mp hq; right; right; right; grind
theorem sq_le {x y : Rat} (h0 : 0 ≤ x) (h : x ≤ y) : x * x ≤ y * y :=
  Rat.le_trans (Rat.mul_le_mul_of_nonneg_left h h0) (Rat.mul_le_mul_of_nonneg_right h (Rat.le_trans h0 h))
theorem sq_le_abs {x y : Rat} (h1 : x ≤ y) (h2 : -x ≤ y) : x * x ≤ y * y := by
  rcases Rat.le_total (a := 0) (b := x) with h | h
  · exact sq_le h h1
  · have := sq_le (x := -x) (by grind) h2
    grind
theorem Arr.top {G : Rat} {done : List (Rat × Rat)} {r o : Rat} (h : Arr G done r o) : r * r + o * o ≤ G * G := by
  have h1 := sq_le_abs h.a1 h.a2
  have h2 := sq_le_abs h.a3 h.a4
  grind
theorem maxQ_mem : ∀ (rs : List Rat) (q : Rat), maxQ q rs = q ∨ maxQ q rs ∈ rs
  | [], q => .inl rfl
  | r :: rs, q => by
    rw [maxQ]
    rcases maxQ_mem rs (if q < r then r else q) with h | h
    · rw [h]
      split
      · exact .inr List.mem_cons_self
      · exact .inl rfl
    · exact .inr (List.mem_cons_of_mem _ h)
end Fr

namespace Fr
open PySem Mv Sh

@[simp] theorem pr0 (a b : Int) : dIx (prD a b) (.int 0) = some (.val (.int a)) := rfl
@[simp] theorem pr1 (a b : Int) : dIx (prD a b) (.int 1) = some (.val (.int b)) := rfl
end Fr

namespace Fr
open PySem Mv Sh

/-! ### what may be told: sizes of texts -/
mutual
/-- at most so many signs -/
def wide : D → Nat
  | .none => 4
  | .bool _ => 5
  | .int _ => 1921
  | .str _ => 400
  | .list xs => wides xs + 3
  | .tuple xs => wides xs + 3
  | .dict _ => 0
def wides : List D → Nat
  | [] => 0
  | x :: xs => wide x + 2 + wides xs
end
mutual
/-- no text, no dict; numbers that can be told -/
def plain : D → Prop
  | .none => True
  | .bool _ => True
  | .int i => i.natAbs.log2 < 1920
  | .str x => PyData.strOk x = true ∧ (PyData.str x).shown.length ≤ 400
  | .list xs => plains xs
  | .tuple xs => plains xs
  | .dict _ => False
def plains : List D → Prop
  | [] => True
  | x :: xs => plain x ∧ plains xs
end
mutual
theorem plain_ok : ∀ d : D, plain d → d.showable = true ∧ d.shown.length ≤ wide d ∧ d.canLay0 = true
  | .none, _ => ⟨by simp only [PyData.showable], by simp only [PyData.shown, wide]; decide, by simp only [PyData.canLay0]⟩
  | .bool b, _ => ⟨by simp only [PyData.showable], by simp only [PyData.shown, wide]; cases b <;> decide, by simp only [PyData.canLay0]⟩
  | .int i, h => by
    have h' : i.natAbs.log2 < 1920 := h
    refine ⟨by simp only [PyData.showable]; exact decide_eq_true h', ?_, by simp only [PyData.canLay0]⟩
    simp only [PyData.shown, wide]
    have e : (Str.ofString (toString i)).length = (toString i).length := ofString_length _
    have e2 := int_text_length_le (k := 1920) (by decide) h'
    show (Str.ofString (toString i)).length ≤ 1921
    omega
  | .str _, h => ⟨by simp only [PyData.showable], h.2, by simp only [PyData.canLay0]; exact h.1⟩
  | .list xs, h => by
    obtain ⟨h1, h2, h3, h4⟩ := plains_ok xs h
    refine ⟨by simpa only [PyData.showable] using h1, ?_, by simpa only [PyData.canLay0] using h3⟩
    simp only [PyData.shown, wide]
    have := listText_len_le (PyData.shownAll xs)
    omega
  | .tuple xs, h => by
    obtain ⟨h1, h2, h3, h4⟩ := plains_ok xs h
    refine ⟨by simpa only [PyData.showable] using h1, ?_, by simpa only [PyData.canLay0] using h3⟩
    simp only [PyData.shown, wide]
    have := tupleText_len_le (PyData.shownAll xs)
    omega
  | .dict _, h => h.elim
theorem plains_ok : ∀ ds : List D, plains ds → PyData.showableAll ds = true ∧ ((PyData.shownAll ds).map (·.length)).sum + 2 * (PyData.shownAll ds).length ≤ wides ds ∧ PyData.canLayAll0 ds = true ∧ True
  | [], _ => ⟨by simp only [PyData.showableAll], by simp [PyData.shownAll, wides], by simp only [PyData.canLayAll0], trivial⟩
  | d :: ds, h => by
    obtain ⟨a1, a2, a3⟩ := plain_ok d h.1
    obtain ⟨b1, b2, b3, _⟩ := plains_ok ds h.2
    refine ⟨by simp only [PyData.showableAll, a1, b1, Bool.and_self], ?_, by simp only [PyData.canLayAll0, a3, b3, Bool.and_self], trivial⟩
    simp only [PyData.shownAll, List.map_cons, List.sum_cons, List.length_cons, wides]
    omega
end
theorem tell_of {d : D} (h : plain d) (hw : wide d ≤ 1000000) (hd : d.depth ≤ 60) : Tell d := by
  obtain ⟨h1, h2, h3⟩ := plain_ok d h
  refine ⟨?_, h1, ?_, by omega, repB_of (noDict_lay h3)⟩
  · show (d.canLay0 && decide (d.depth ≤ 64)) = true
    rw [h3, decide_eq_true (by omega)]
    rfl
  · have : d.shown.length ≤ 1000000 := by omega
    exact this
theorem plains_of {ds : List D} (h : ∀ d ∈ ds, plain d) : plains ds := by
  induction ds with
  | nil => trivial
  | cons d ds ih => exact ⟨h d List.mem_cons_self, ih fun x hx => h x (List.mem_cons_of_mem _ hx)⟩
theorem wides_of {ds : List D} {k : Nat} (h : ∀ d ∈ ds, wide d ≤ k) : wides ds ≤ ds.length * (k + 2) := by
  induction ds with
  | nil => simp [wides]
  | cons d ds ih =>
    have h1 := h d List.mem_cons_self
    have h2 := ih fun x hx => h x (List.mem_cons_of_mem _ hx)
    rw [wides, List.length_cons, Nat.succ_mul]
    omega
theorem depths_of {ds : List D} {k : Nat} (h : ∀ d ∈ ds, d.depth ≤ k) : PyData.depthAll ds ≤ k := by
  induction ds with
  | nil => simp [PyData.depthAll]
  | cons d ds ih =>
    have h1 := h d List.mem_cons_self
    have h2 := ih fun x hx => h x (List.mem_cons_of_mem _ hx)
    simp only [PyData.depthAll]
    omega
/-- a fraction that can be told -/
def Tq (q : Rat) : Prop := q.num.natAbs < 2 ^ 1900 ∧ q.den < 2 ^ 1900
theorem Fx.tq {N M : Nat} {q : Rat} (h : Fx N M q) (hN : 0 < N ∧ N < 2 ^ 1900) (hM : M < 2 ^ 1900) : Tq q :=
  let ⟨h1, h2⟩ := h.num hN.1
  ⟨Nat.lt_of_le_of_lt h1 hM, Nat.lt_of_le_of_lt h2 hN.2⟩
theorem plain_fr {q : Rat} (h : Tq q) : plain (fr q) := by
  refine ⟨?_, ?_, trivial⟩
  · exact log2_lt (by decide) (up h.1 (by decide))
  · show ((q.den : Int)).natAbs.log2 < 1920
    rw [Int.natAbs_natCast]
    exact log2_lt (by decide) (up h.2 (by decide))
theorem wide_fr (q : Rat) : wide (fr q) = 3849 := rfl
theorem depth_fr (q : Rat) : (fr q).depth = 1 := by simp [fr, PyData.depth, PyData.depthAll]
theorem plain_sp {p : Rat × Rat} (h1 : Tq p.1) (h2 : Tq p.2) : plain (sp p) := ⟨plain_fr h1, plain_fr h2, trivial⟩
theorem wide_sp (p : Rat × Rat) : wide (sp p) = 7705 := rfl
theorem depth_sp (p : Rat × Rat) : (sp p).depth = 2 := by simp [sp, PyData.depth, PyData.depthAll, depth_fr]
theorem tell_none : Tell .none := tell_of trivial (by show (4 : Nat) ≤ 1000000; decide) (by simp [PyData.depth])
theorem tell_spans {ss : List (Rat × Rat)} (h : ∀ p ∈ ss, Tq p.1 ∧ Tq p.2) (hl : ss.length ≤ 100) : Tell (.tuple (ss.map sp)) := by
  refine tell_of (plains_of fun d hd => ?_) ?_ ?_
  · obtain ⟨p, hp, rfl⟩ := List.mem_map.mp hd
    exact plain_sp (h p hp).1 (h p hp).2
  · have := wides_of (ds := ss.map sp) (k := 7705) fun d hd => by
      obtain ⟨p, hp, rfl⟩ := List.mem_map.mp hd
      exact Nat.le_of_eq (wide_sp p)
    rw [List.length_map] at this
    have h2 : ss.length * (7705 + 2) ≤ 100 * (7705 + 2) := Nat.mul_le_mul_right _ hl
    show wides _ + 3 ≤ _
    omega
  · have := depths_of (ds := ss.map sp) (k := 2) fun d hd => by
      obtain ⟨p, hp, rfl⟩ := List.mem_map.mp hd
      exact Nat.le_of_eq (depth_sp p)
    simp only [PyData.depth]
    omega
end Fr

namespace Fr
open PySem Mv Sh

theorem bag_ok {ns : List Int} (h : ns.length ≤ 63) : ∃ ys, m__law_bag [.list (ns.map PyData.int)] = some (.ret (.own false ys)) ∧ BagOk ys := by
  have hc : cutD (ns.map PyData.int) none (some 63) = ns.map PyData.int := by
    unfold cutD
    rw [HT.sIx_none, show HT.sIx (ns.map PyData.int).length (ns.map PyData.int).length (some 63) = min 63 (ns.map PyData.int).length from HT.sIx_nat _ _ 63]
    simp
    exact List.take_of_length_le (by simp; omega)
  have hl : ns.length ≤ 1000000 := by omega
  have h1 : lcL (pNm 1) bYes (vCb dAbs (vCons (vVar 1) (vNil))) [1] (ns.map PyData.int) [.val (.list (ns.map PyData.int)), .no] = .ok (ns.map fun n => .int (n.natAbs : Int)) [.val (.list (ns.map PyData.int)), .no] :=
    lcL_map PyData.int _ ns fun n _ => ⟨.val (.list (ns.map PyData.int)), [.val (.int n)], [.val (.list (ns.map PyData.int)), .val (.int n)], rfl, by simp, rfl⟩
  refine ⟨bagD 0 1234567891 0 (ns.map fun n => (n.natAbs : Int)), ?_, _, _, _, _, rfl, ⟨by decide, by decide, by decide, by decide, fun c hc => ?_, by rw [List.length_map]; exact h⟩⟩
  · have e : (ns.map fun n => (n.natAbs : Int)).map PyData.int = ns.map fun n => .int (n.natAbs : Int) := by rw [List.map_map]; rfl
    unfold bagD
    rw [e]
    simp only [m__law_bag, runM, g__law_bag, List.length_cons, List.length_nil, if_true]
    simp [startE, noOwn, wipeE, backE, lim_is, hc, hl, h1]
  · obtain ⟨n, _, rfl⟩ := List.mem_map.mp hc
    omega
@[simp] theorem ne_bool (a b : Bool) : dNe (.bool a) (.bool b) = some (.val (.bool (a != b))) := by
  rw [dNe]
  · rw [if_pos ⟨shaped_bool a, shaped_bool b⟩]
    cases a <;> cases b <;> simp [PyData.eqv]
  · intro _ _ h; cases h
@[simp] theorem is_none : dIs .none .none = some (.val (.bool true)) := rfl
@[simp] theorem is_tup (ds : List D) : dIs (.tuple ds) .none = some (.val (.bool false)) := rfl
@[simp] theorem isnt_none : dIsnt .none .none = some (.val (.bool false)) := rfl
@[simp] theorem isnt_tup (ds : List D) : dIsnt (.tuple ds) .none = some (.val (.bool true)) := rfl
@[simp] theorem is_told (ss : List (Rat × Rat)) : dIs (told ss) .none = some (.val (.bool false)) := rfl
@[simp] theorem isnt_told (ss : List (Rat × Rat)) : dIsnt (told ss) .none = some (.val (.bool true)) := rfl
/-- a size that may be asked -/
structure SizeOk (x : Rat) : Prop where
  nn : 0 ≤ x
  fx : Fx 840 (2 ^ 150) x
end Fr

namespace Fr
open PySem Mv Sh

/-! ### the least of a list -/
def minQ (q : Rat) : List Rat → Rat
  | [] => q
  | r :: rs => minQ (if r < q then r else q) rs
theorem least_loop (b : MS) (hb : b = sSet 1 (vIf (vB (vOp (dCmp fun i j => decide (i < j)) (vCall m_compared (vCons (vVar 2) (vCons (vVar 1) (vNil)))) (vC (.int 0)))) (vVar 2) (vVar 1))) :
    ∀ (rs : List Rat) (q : Rat) (s0 s2 : Sl), Bq q → (∀ r ∈ rs, Bq r) → ∃ t2, forL (pNm 2) b (rs.map fr) [s0, .val (fr q), s2] = .ok .nx [s0, .val (fr (minQ q rs)), t2]
  | [], q, s0, s2, _, _ => ⟨s2, rfl⟩
  | r :: rs, q, s0, s2, hq, hr => by
    have h1 := hr r List.mem_cons_self
    have hm : Bq (if r < q then r else q) := by split <;> assumption
    obtain ⟨t2, h⟩ := least_loop b hb rs (if r < q then r else q) s0 (.val (fr r)) hm fun x hx => hr x (List.mem_cons_of_mem _ hx)
    refine ⟨t2, ?_⟩
    rw [List.map_cons, forL_nx (e1 := [s0, .val (fr q), .val (fr r)]) (e2 := [s0, .val (fr (if r < q then r else q)), .val (fr r)]) rfl ?_, h, minQ]
    have hc := m_compared_eq h1 hq
    rw [hb]
    by_cases hlt : r < q
    · have : cmpI r q < 0 := (cmpI_lt r q).mpr hlt
      simp [hc, hlt, this]
    · have : ¬ cmpI r q < 0 := fun z => hlt ((cmpI_lt r q).mp z)
      simp [hc, hlt, this]
theorem cut_tail (q : Rat) (rs : List Rat) : cutD (fr q :: rs.map fr) (some 1) none = rs.map fr := by
  unfold cutD
  rw [show HT.sIx (fr q :: rs.map fr).length 0 (some 1) = min 1 (fr q :: rs.map fr).length from HT.sIx_nat _ 0 1, HT.sIx_none]
  simp
  exact List.take_of_length_le
                                                                                                                (by simp)
theorem m_least_eq {q : Rat} {rs : List Rat} (hq : Bq q) (hr : ∀ r ∈ rs, Bq r) : m_least_of [.list (fr q :: rs.map fr)] = some (.ret (.val (fr (minQ q rs)))) := by
  obtain ⟨t2, h⟩ := least_loop _ rfl rs q (.val (.list (fr q :: rs.map fr))) .no hq hr
  have hc := cut_tail q rs
  simp only [m_least_of, runM, g_least_of, List.length_cons, List.length_nil, if_true]
  simp [startE, hc, h]
/-! ### what is left of a span -/
theorem cut_drop (xs : List D) {n : Nat} (h : n ≤ xs.length) : cutD xs (some (n : Int)) none = xs.drop n := by
  unfold cutD
  rw [HT.sIx_none, show HT.sIx xs.length 0 (some (n : Int)) = min n xs.length from HT.sIx_nat _ _ n, Nat.min_eq_left h]
  exact List.take_of_length_le (by rw [List.length_drop]; exact Nat.le_refl _)
def others (ss : List (Rat × Rat)) (k : Nat) : List (Rat × Rat) := ss.take k ++ ss.drop (k + 1)
theorem others_in {ss : List (Rat × Rat)} {k : Nat} : ∀ p ∈ others ss k, p ∈ ss := fun p hp => by
  rcases List.mem_append.mp hp with
                                                                                                                h | h
  · exact List.mem_of_mem_take h
  · exact List.mem_of_mem_drop h
theorem Spans.others {N M : Nat} {ss : List (Rat × Rat)} (S : Spans N M ss) (k : Nat) : Spans N M (Fr.others ss k) := by
  refine ⟨fun p hp => S.all p (others_in p hp), ?_, S.n0, S.n1, S.m1⟩
  unfold Fr.others
  rw [List.length_append, List.length_take, List.length_drop]
  have := S.len
  omega
theorem Spans.low {N M : Nat} {ss : List (Rat × Rat)} (S : Spans N M ss) : Fx N (102 * M) (Fr.low ss) := by
  rcases maxQ_mem (ss.map (leftOf ss)) 0 with e | e
  · have e : Fr.low ss = 0 := e
    rw [e]; exact Fx.zero
  · obtain ⟨p, hp, e⟩ := List.mem_map.mp e
    have e : leftOf ss p = Fr.low ss := e
    rw [← e]; exact (S.left hp).2
end Fr

namespace Fr
open PySem Mv Sh

@[simp] theorem e_ins (g : M (List D)) (s : Sl) (es : List Sl) (i : Nat) : sIns i g (s :: es) = ownAt i (s :: es) fun _ _ => (g (s :: es)).bind fun ds e => ownAt i e fun b xs => match ds with
  | [.int k, d] => if xs.length < LIM ∧ 0 ≤ k ∧ k < 1000000000 then .ok .nx (e.set i (.own b (xs.take k.toNat ++ [d] ++ xs.drop k.toNat))) else .bad
  | _ => .bad := rfl
/-! ### things mixed -/
/-! ### the law's own closing -/
theorem enum_zip (ss : List (Rat × Rat)) : enumD (ss.map sp) = ss.zipIdx.map fun x => PyData.tuple [.int (x.2 : Int), sp x.1] := by
  unfold enumD
  rw [List.mapIdx_eq_zipIdx_map, List.zipIdx_map, List.map_map]
  rfl
def numD (x : (Rat × Rat) × Nat) : D := .tuple [.int (x.2 : Int), sp x.1]
end Fr

namespace Fr
open PySem Mv Sh

@[simp] theorem isi_sp (p : Rat × Rat) : isiD "tuple" (sp p) = some (.val (.bool true)) := isi_tt _
end Fr

namespace Fr
open PySem Mv Sh

/-! ### amounts that close -/
structure Cl (ss : List (Rat × Rat)) (xs : List Rat) : Prop where
  len : xs.length = ss.length
  mid : ∀ (k : Nat) p x, ss[k]? = some p → xs[k]? = some x → p.1 ≤ x ∧ x ≤ p.2
  sml : ∀ x ∈ xs, x ≤ sumQ xs - x
theorem rest_ge : ∀ {ss : List (Rat × Rat)} {xs : List Rat}, xs.length = ss.length → (∀ (k : Nat) p x, ss[k]? = some p → xs[k]? = some x → x ≤ p.2) → sumQ xs ≤ tot ss ∧ ∀ (k : Nat) p x, ss[k]? = some p → xs[k]? = some x → sumQ xs - x ≤ tot ss - p.2
  | [], [], _, _ => ⟨by unfold tot; exact Rat.le_refl, fun k p x h => by simp at h⟩
  | [], _ :: _, h,
                                                                                                                _ => by cases h
  | _ :: _, [], h,
                                                                                                                _ => by cases h
  | p :: ss, x :: xs, h, hm => by
    obtain ⟨h1, h2⟩ := rest_ge (ss := ss) (xs := xs) (by simpa using h) fun k q y a b => hm (k + 1) q y (by simpa using a) (by simpa using b)
    have h0 := hm 0 p x rfl rfl
    have e : tot (p :: ss) = p.2 + tot ss := rfl
    refine ⟨by rw [e, sumQ]; grind, fun k q y a b => ?_⟩
    rw [e, sumQ]
    cases k with
    | zero =>
      simp at a b
      subst a; subst b
      grind
    | succ k =>
      have := h2 k q y (by simpa using a) (by simpa using b)
      grind
theorem Cl.closes {ss : List (Rat × Rat)} {xs : List Rat} (h : Cl ss xs) : closesB ss = true := by
  unfold closesB
  rw [List.all_eq_true]
  intro p hp
  obtain ⟨k, hk⟩ := List.mem_iff_getElem?.mp hp
  have hlt : k < xs.length := by
    rw [h.len]
    exact (List.getElem?_eq_some_iff.mp hk).1
  have hx := List.getElem?_eq_getElem hlt
  have h1 := h.mid k p _ hk hx
  have h2 := h.sml _ (List.getElem_mem hlt)
  have h3 := (rest_ge h.len fun k p x a b => (h.mid k p x a b).2).2 k p _ hk hx
  rw [decide_eq_true_eq]
  exact Rat.le_trans h1.1 (Rat.le_trans h2 h3)
/-! ### one span otherwise -/
theorem others_perm : ∀ {ss : List (Rat × Rat)} {k : Nat} {p : Rat × Rat}, ss[k]? = some p → ss.Perm (others ss k ++ [p])
  | [], k, p, h => by simp at h
  | q :: ss, 0, p, h => by
    cases h
    exact (List.perm_append_singleton _ _).symm
  | q :: ss, k + 1, p, h => by
    have := others_perm (ss := ss) (k := k) (p := p) (by simpa using h)
    have e : others (q :: ss) (k + 1) = q :: others ss k := rfl
    rw [e]
    exact this.cons q
theorem others_set (ss : List (Rat × Rat)) (k : Nat) (p : Rat × Rat) : others (ss.set k p) k = others ss k := by
  unfold others
  rw [List.take_set_of_le (Nat.le_refl _), List.drop_set_of_lt (Nat.lt_succ_self _)]
theorem set_perm {ss : List (Rat × Rat)} {k : Nat} (hk : k < ss.length) (p : Rat × Rat) : (ss.set k p).Perm (others ss k ++ [p]) := by
  have := others_perm (ss := ss.set k p) (k := k) (p := p) (by rw [List.getElem?_set_self hk])
  rwa [others_set] at this
section
variable {N M : Nat} {ss : List (Rat × Rat)} {k : Nat} {p : Rat × Rat}
theorem Spans.big (S : Spans N M ss) (hM : 102 * M < 2 ^ 200) : Spans N (102 * M) ss :=
  ⟨fun q hq => ⟨(S.all q hq).lo, (S.all q hq).le, (S.all q hq).f1.mono (by omega), (S.all q hq).f2.mono (by omega)⟩, S.len, S.n0, S.n1, hM⟩
end
end Fr

namespace Fr
open PySem Mv Sh

@[simp] theorem isnt_bool (a b : Bool) : dIsnt (.bool a) (.bool b) = some (.val (.bool (!decide (a = b)))) := rfl
section
variable {M : Nat} {ss : List (Rat × Rat)} {k : Nat} {p : Rat × Rat}
end
end Fr

namespace Fr
open PySem Mv Sh

section
variable (f g : M Sl) (s : Sl) (es : List Sl) (i : Nat) (l h : M (Option Int))
@[simp] theorem e_slv : vSlv i l h (s :: es) = match (s :: es)[i]? with
  | some (.val d) => (l (s :: es)).bind fun lo e2 => (h e2).bind fun hi e3 => opt (dSl d lo hi) e3
  | some (.own _ _) => (l (s :: es)).bind fun lo e2 => (h e2).bind fun hi e3 => ownE i e3 fun _ xs => opt (some (.own false (cutD xs lo hi))) e3
  | _ => .bad := rfl
@[simp] theorem e_vtr : vTr f (s :: es) = (vD f (s :: es)).bind truE := rfl
@[simp] theorem e_orT : vOrT f g (s :: es) = (vD f (s :: es)).bind fun d e => (truE d e).bind fun b e2 => if b = true then .ok (.val d) e2 else g e2 := rfl
@[simp] theorem e_andT : vAndT f g (s :: es) = (vD f (s :: es)).bind fun d e => (truE d e).bind fun b e2 => if b = true then g e2 else .ok (.val d) e2 := rfl
end
@[simp] theorem dList_l (xs : List D) : dList [.list xs] = some (.own false xs) := rfl
@[simp] theorem dList_t (xs : List D) : dList [.tuple xs] = some (.own false xs) := rfl
@[simp] theorem dTuple_l (xs : List D) : dTuple [.list xs] = some (.val (.tuple xs)) := rfl
@[simp] theorem ne_str (x y : Str) : dNe (.str x) (.str y) = some (.val (.bool (!decide (x = y)))) := rfl
@[simp] theorem eq_int (a b : Int) : dEq (.int a) (.int b) = some (.val (.bool (decide (a = b)))) := by
  rw [dEq]
  · rw [if_pos ⟨shaped_int a, shaped_int b⟩]
    simp only [PyData.eqv]
    rfl
  · intro _ _ h; cases h
@[simp] theorem ne_int (a b : Int) : dNe (.int a) (.int b) = some (.val (.bool (!decide (a = b)))) := by
  rw [dNe]
  · rw [if_pos ⟨shaped_int a, shaped_int b⟩]
    simp only [PyData.eqv]
    rfl
  · intro _ _ h; cases h
theorem tell_list {ds : List D} {w h : Nat} (p : ∀ d ∈ ds, plain d ∧ wide d ≤ w ∧ d.depth ≤ h) (hw : ds.length * (w + 2) + 3 ≤ 1000000) (hh : h ≤ 59) : Tell (.list ds) ∧ Tell (.tuple ds) := by
  have pl := plains_of fun d hd => (p d hd).1
  have wd := wides_of fun d hd => (p d hd).2.1
  have dp := depths_of fun d hd => (p d hd).2.2
  constructor
  · exact tell_of pl (by show wides ds + 3 ≤ 1000000; omega) (by simp only [PyData.depth]; omega)
  · exact tell_of pl (by show wides ds + 3 ≤ 1000000; omega) (by simp only [PyData.depth]; omega)
/-- a loop over things of one kind -/
theorem for_each {α : Type} {pat : D → En → Option En} {b : MS} (a : α → D) (I : List α → En → Prop) (stp : ∀ x xs e, I (x :: xs) e → ∃ e1 e2, pat (a x) e = some e1 ∧ b e1 = .ok .nx e2 ∧ I xs e2) (xs : List α) (e : En) (h : I xs e) : ∃ e', forL pat b (xs.map a) e = .ok .nx e' ∧ I [] e' := by
  obtain ⟨e', h1, ys, h2, h3⟩ := for_inv (pat := pat) (b := b) (fun ds e => ∃ ys : List α, ds = ys.map a ∧ I ys e) (fun d ds e ⟨ys, hd, hi⟩ => by
    cases ys with
    | nil => cases hd
    | cons y ys =>
      rw [List.map_cons, List.cons.injEq] at hd
      obtain ⟨rfl, rfl⟩ := hd
      obtain ⟨e1, e2, h1, h2, h3⟩ := stp y ys e hi
      exact ⟨e1, e2, h1, h2, ys, rfl, h3⟩) (xs.map a) e ⟨xs, rfl, h⟩
  have : ys = [] := by cases ys with
    | nil => rfl
    | cons y ys => cases h2
  subst this
  exact ⟨e', h1, h3⟩
/-- a loop that ends where a test fails -/
theorem for_test {α : Type} {pat : D → En → Option En} {b : MS} (a : α → D) (p : α → Bool) (r : Sl) (I : En → Prop) : ∀ (xs : List α) (e : En), (∀ x ∈ xs, ∀ e, I e → ∃ e1 e2, pat (a x) e = some e1 ∧ (p x = true → b e1 = .ok .nx e2 ∧ I e2) ∧ (p x = false → b e1 = .ok (.rt r) e2)) → I e →
    ∃ e', forL pat b (xs.map a) e = .ok (if xs.all p = true then Fl.nx else Fl.rt r) e' ∧ (xs.all p = true → I e')
  | [], e, _, hi => ⟨e, rfl, fun _ => hi⟩
  | x :: xs, e, stp, hi => by
    obtain ⟨e1, e2, h1, h2, h3⟩ := stp x List.mem_cons_self e hi
    cases hp : p x with
    | true =>
      obtain ⟨h4, h5⟩ := h2 hp
      obtain ⟨e', h6, h7⟩ := for_test a p r I xs e2 (fun y hy => stp y (List.mem_cons_of_mem _ hy)) h5
      refine ⟨e', ?_, fun h => h7 (by rw [List.all_cons, hp, Bool.true_and] at h; exact h)⟩
      rw [List.map_cons, forL_nx h1 h4, h6, List.all_cons, hp, Bool.true_and]
    | false =>
      refine ⟨e2, ?_, fun h => by rw [List.all_cons, hp] at h; cases h⟩
      rw [List.map_cons, forL, h1]
      dsimp only
      rw [h3 hp, List.all_cons, hp, Bool.false_and]
      rfl
theorem ne_nil_of {ds : List D} (h : SeqAt.shaped (.list ds) = true) : dNe (.list ds) (.list []) = some (.val (.bool (!ds.isEmpty))) := by
  rw [dNe]
  · rw [if_pos ⟨h, shaped_nil⟩]
    cases ds <;> simp [PyData.eqv, PyData.eqvAll]
  · intro _ _ h; cases h
/-- turns that leave the names as they are -/
theorem lcL_keep {α : Type} {pat : D → En → Option En} {tt : M Bool} {el : M Sl} {vs : List Nat} {e : En} (a : α → D) (p : α → Bool) (b : α → D) (xs : List α) (h : ∀ x ∈ xs, ∃ s es, pat (a x) e = some (s :: es) ∧ wipeE (s :: es) vs = e ∧ tt (s :: es) = .ok (p x) (s :: es) ∧ (p x = true → vD el (s :: es) = .ok (b x) (s :: es))) :
    lcL pat tt el vs (xs.map a) e = .ok ((xs.filter p).map b) e :=
  lcL_filter a p b xs fun x hx => let ⟨s, es, h1, h2, h3, h4⟩ := h x hx; ⟨s, es, _, _, h1, h3, fun hp => ⟨h4 hp, h2⟩, fun _ => h2⟩
theorem lcL_each {α : Type} {pat : D → En → Option En} {el : M Sl} {vs : List Nat} {e : En} (a : α → D) (b : α → D) (xs : List α) (h : ∀ x ∈ xs, ∃ s es, pat (a x) e = some (s :: es) ∧ wipeE (s :: es) vs = e ∧ vD el (s :: es) = .ok (b x) (s :: es)) :
    lcL pat bYes el vs (xs.map a) e = .ok (xs.map b) e :=
  lcL_map a b xs fun x hx => let ⟨s, es, h1, h2, h3⟩ := h x hx; ⟨s, es, _, h1, h3, h2⟩
end Fr

namespace Fr
open PySem Mv Sh

/-! ### nets -/
structure Box where
  src : Nat
  goal : Nat
  span : Rat × Rat
def boxD (b : Box) : D := .tuple [.int (b.src : Int), .int (b.goal : Int), fr b.span.1, fr b.span.2]
def inpD (p : Nat × (Rat × Rat)) : D := .tuple [.int (p.1 : Int), fr p.2.1, fr p.2.2]
structure Net where
  many : Nat
  boxes : List Box
  inps : List (Nat × (Rat × Rat))
def netD (N : Net) : D := .tuple [.int (N.many : Int), .tuple (N.boxes.map boxD), .tuple (N.inps.map inpD)]
@[simp] theorem netD0 (N : Net) : dIx (netD N) (.int 0) = some (.val (.int (N.many : Int))) := rfl
@[simp] theorem netD1 (N : Net) : dIx (netD N) (.int 1) = some (.val (.tuple (N.boxes.map boxD))) := rfl
@[simp] theorem netD2 (N : Net) : dIx (netD N) (.int 2) = some (.val (.tuple (N.inps.map inpD))) := rfl
@[simp] theorem boxD0 (b : Box) : dIx (boxD b) (.int 0) = some (.val (.int (b.src : Int))) := rfl
@[simp] theorem boxD1 (b : Box) : dIx (boxD b) (.int 1) = some (.val (.int (b.goal : Int))) := rfl
@[simp] theorem boxD2 (b : Box) : dIx (boxD b) (.int 2) = some (.val (fr b.span.1)) := rfl
@[simp] theorem boxD3 (b : Box) : dIx (boxD b) (.int 3) = some (.val (fr b.span.2)) := rfl
@[simp] theorem inpD0 (p : Nat × (Rat × Rat)) : dIx (inpD p) (.int 0) = some (.val (.int (p.1 : Int))) := rfl
/-- a net that is drawn: numbers of twelfths -/
structure NetOk (N : Net) : Prop where
  b : ∀ b ∈ N.boxes, b.src < N.many ∧ b.goal < N.many ∧ Span 12 108 b.span
  i : ∀ p ∈ N.inps, p.1 < N.many ∧ Span 12 108 p.2
  d : (N.inps.map (·.1)).Nodup
  bl : N.boxes.length ≤ 18
  il : N.inps.length ≤ 18
def into (N : Net) (k : Nat) : List Box := N.boxes.filter fun b => decide (b.goal = k)
/-- the input's span of a place: one, or none -/
def inAt (N : Net) (k : Nat) : List (Rat × Rat) := (N.inps.filter fun p => decide (p.1 = k)).map (·.2)
theorem few_of : ∀ {ps : List (Nat × (Rat × Rat))} (k : Nat), (ps.map (·.1)).Nodup → ((ps.filter fun p => decide (p.1 = k)).map (·.2)).length ≤ 1
  | [], _, _ => by simp
  | p :: ps, k, h => by
    rw [List.map_cons,
                                                                                                                  List.nodup_cons] at h
    have ih := few_of k h.2
    by_cases hp : p.1 = k
    · have : ps.filter (fun p => decide (p.1 = k)) = [] := by
        rw [List.filter_eq_nil_iff]
        intro q hq hd
        exact h.1 (List.mem_map.mpr ⟨q, hq, by rw [of_decide_eq_true hd, hp]⟩)
      rw [List.filter_cons_of_pos (by simpa using hp), this]
      simp
    · rw [List.filter_cons_of_neg (by simpa using hp)]
      exact ih
theorem NetOk.one {N : Net} (K : NetOk N) (k : Nat) : (inAt N k).length ≤ 1 := few_of k K.d
theorem shaped_fr (q : Rat) : SeqAt.shaped (fr q) = true := by simp [fr, SeqAt.shaped, PyData.canLay0, PyData.canLayAll0, PyData.depth, PyData.depthAll]
end Fr

namespace Fr
open PySem Mv Sh

/-! ### sizes, spans at a place -/
structure SzOk (C M : Nat) (n : Nat) (xs : List Rat) : Prop where
  len : xs.length = n
  all : ∀ q ∈ xs, 0 ≤ q ∧ Fx C M q
  c0 : 0 < C
  c1 : C < 2 ^ 150
  m1 : M < 2 ^ 150
def at0 (xs : List Rat) (k : Nat) : Rat := xs.getD k 0
theorem at_get {xs : List Rat} {k : Nat} (h : k < xs.length) : xs[k]? = some (at0 xs k) := by
  unfold at0
  rw [List.getD_eq_getElem?_getD, List.getElem?_eq_getElem h]
  rfl
theorem SzOk.at {C M n : Nat} {xs : List Rat} (h : SzOk C M n xs) {k : Nat} (hk : k < n) : 0 ≤ at0 xs k ∧ Fx C M (at0 xs k) := h.all _ (List.mem_of_getElem? (at_get (by rw [h.len]; exact hk)))
def led1 (xs : List Rat) (b : Box) : Rat × Rat := (b.span.1 * at0 xs b.src, b.span.2 * at0 xs b.src)
def spansOf (N : Net) (xs : List Rat) (k : Nat) : List (Rat × Rat) := (into N k).map (led1 xs) ++ inAt N k
theorem n12 : (0 : Nat) < 12 ∧ 12 < 2 ^ 4000 := ⟨by decide, up (n := 12) (k := 4) (by decide) (by decide)⟩
theorem n6 : (0 : Nat) < 6 ∧ 6 < 2 ^ 4000 := ⟨by decide, up (n := 6) (k := 3) (by decide) (by decide)⟩
theorem SzOk.bq {C M n : Nat} {xs : List Rat} (h : SzOk C M n xs) {q : Rat} (hq : Fx C M q) : Bq q := hq.bq ⟨h.c0, up h.c1 (by decide)⟩ (up h.m1 (by decide))
/-- numerators of spans behind a beat -/
def MM (C M : Nat) : Nat := 108 * (M + C)
theorem SzOk.mm {C M n : Nat} {xs : List Rat} (h : SzOk C M n xs) : 12 * C < 2 ^ 160 ∧ MM C M < 2 ^ 160 := by
  have h1 := h.c1
  have h2 := h.m1
  have e : 2 ^ 160 = 1024 * 2 ^ 150 := by decide
  rw [e]
  unfold MM
  omega
section
variable {N : Net} {xs : List Rat} {k : Nat} {C M : Nat}
theorem NetOk.into (K : NetOk N) : ∀ b ∈ Fr.into N k, b.src < N.many ∧ b.goal = k ∧ Span 12 108 b.span := fun b hb => by
  obtain ⟨h1, h2⟩ := List.mem_filter.mp hb
  exact ⟨(K.b b h1).1, of_decide_eq_true h2, (K.b b h1).2.2⟩
theorem NetOk.ins (K : NetOk N) : ∀ p ∈ inAt N k, Span 12 108 p := fun p hp => by
  obtain ⟨q, hq, rfl⟩ :=
                                                                                                                List.mem_map.mp hp
  exact (K.i q (List.mem_filter.mp hq).1).2
theorem NetOk.spans (K : NetOk N) (S : SzOk C M N.many xs) : Spans (12 * C) (MM C M) (spansOf N xs k) := by
  have c0 := S.c0
  refine ⟨fun p hp => ?_, ?_, by omega, up S.mm.1 (by decide), up S.mm.2 (by decide)⟩
  · rcases List.mem_append.mp hp with
                                                                                                                  hp | hp
    · obtain ⟨b, hb, rfl⟩ := List.mem_map.mp hp
      obtain ⟨h1, _, P⟩ := K.into b hb
      obtain ⟨h0, f⟩ := S.at h1
      exact ⟨Rat.mul_nonneg P.lo h0, Rat.mul_le_mul_of_nonneg_right P.le h0, (P.f1.mul f).mono (by unfold MM; omega), (P.f2.mul f).mono (by unfold MM; omega)⟩
    · have P := K.ins p hp
      exact ⟨P.lo, P.le, (P.f1.fine C c0).mono (by unfold MM; omega), (P.f2.fine C c0).mono (by unfold MM; omega)⟩
  · unfold spansOf
    have h1 := K.one k
    have h2 : (Fr.into N k).length ≤ N.boxes.length := List.length_filter_le _ _
    have := K.bl
    rw [List.length_append, List.length_map]
    omega
end
end Fr

namespace Fr
open PySem Mv Sh

/-! ### the law's reach, sizes behind one beat -/
theorem outOf_rt (r : Sl) (e : En) : outOf (.ok (.rt r) e) = some (.ret r) := rfl
section
variable {N : Net} {xs : List Rat} {C M : Nat}
def wi (x : (Rat × Rat) × Rat) : Bool := decide (x.1.1 ≤ x.2) && decide (x.2 ≤ x.1.2)
theorem m_within_eq {p : Rat × Rat} {x : Rat} (h1 : Bq p.1) (h2 : Bq p.2) (hx : Bq x) : m__law_within [sp p, fr x] = some (.ret (.val (.bool (wi (p, x))))) := by
  have b1 := m_below_eq hx h1
  have b2 := m_below_eq h2 hx
  have e : wi (p, x) = (!decide (x < p.1) && !decide (p.2 < x)) := by
    unfold wi
    rw [show decide (p.1 ≤ x) = !decide (x < p.1) by rw [← decide_not]; exact decide_eq_decide.mpr (Rat.not_lt).symm, show decide (x ≤ p.2) = !decide (p.2 < x) by rw [← decide_not]; exact decide_eq_decide.mpr (Rat.not_lt).symm]
  rw [e]
  simp only [m__law_within, runM, g__law_within, List.length_cons, List.length_nil, if_true]
  by_cases c : x < p.1
  · simp [startE, b1, b2, c]
  · simp [startE, b1, b2, c]
end
end Fr

namespace Fr
open PySem Mv Sh

/-- a comprehension that draws -/
theorem lcL_draw {α β : Type} {pat : D → En → Option En} {el : M Sl} {vs : List Nat} (a : α → D) (bD : β → D) (P : α → β → Prop) (J : En → Prop) : ∀ (xs : List α), (∀ x ∈ xs, ∀ e, J e → ∃ s es y e3, pat (a x) e = some (s :: es) ∧ vD el (s :: es) = .ok (bD y) e3 ∧ P x y ∧ J (wipeE e3 vs)) → ∀ e, J e →
    ∃ (zs : List (α × β)) (e' : En), lcL pat bYes el vs (xs.map a) e = .ok (zs.map fun z => bD z.2) e' ∧ zs.map (·.1) = xs ∧ (∀ z ∈ zs, P z.1 z.2) ∧ J e'
  | [], _, e, j => ⟨[], e, rfl, rfl, fun _ h => (List.not_mem_nil h).elim, j⟩
  | x :: xs, h, e, j => by
    obtain ⟨s, es, y, e3, h1, h2, h3, h4⟩ := h x List.mem_cons_self e j
    obtain ⟨zs, e', h5, h6, h7, h8⟩ := lcL_draw a bD P J xs (fun z hz => h z (List.mem_cons_of_mem _ hz)) _ h4
    exact ⟨(x, y) :: zs, e', lcL_yes h1 rfl h2 h5, by rw [List.map_cons, h6], fun z hz => by
      rcases List.mem_cons.mp hz with
                                                                                                                    rfl | hz
      · exact h3
      · exact h7 z hz, h8⟩
/-! ### sizes that are drawn -/
/-! ### bounds, nets that are drawn -/
end Fr

namespace Fr
open PySem Mv Sh

end Fr

namespace Fr
open PySem Mv Sh

/-! ### numbers between bounds, numbers beyond -/
def parts5 : List Rat := [0, 1, Rat.divInt 1 2, Rat.divInt 1 3, Rat.divInt 3 4]
theorem parts5_ok : ∀ q ∈ parts5, Fx 12 12 q ∧ 0 ≤ q ∧ q ≤ 1 := fun q hq => by
  simp only [parts5, List.mem_cons, List.not_mem_nil, or_false] at hq
  rcases hq with rfl | rfl | rfl | rfl | rfl
  · exact ⟨⟨0, by decide, rfl⟩, by decide, by decide⟩
  · exact ⟨⟨12, by decide, rfl⟩, by decide, by decide⟩
  · exact ⟨⟨6, by decide, rfl⟩, by decide, by decide⟩
  · exact ⟨⟨4, by decide, rfl⟩, by decide, by decide⟩
  · exact ⟨⟨9, by decide, rfl⟩, by decide, by decide⟩
structure Rg (C M : Nat) (p : Rat × Rat) : Prop where
  lo : 0 ≤ p.1
  le : p.1 ≤ p.2
  f1 : Fx C M p.1
  f2 : Fx C M p.2
structure Lim (C M : Nat) : Prop where
  c0 : 0 < C
  c1 : C < 2 ^ 180
  m1 : M < 2 ^ 180
theorem Lim.bq {C M : Nat} (L : Lim C M) {q : Rat} (h : Fx C M q) : Bq q := h.bq ⟨L.c0, up L.c1 (by decide)⟩ (up L.m1 (by decide))
theorem Rg.b1 {C M : Nat} {p : Rat × Rat} (L : Lim C M) (h : Rg C M p) : Bq p.1 := L.bq h.f1
theorem Rg.b2 {C M : Nat} {p : Rat × Rat} (L : Lim C M) (h : Rg C M p) : Bq p.2 := L.bq h.f2
theorem SzOk.lim {C M n : Nat} {xs : List Rat} (S : SzOk C M n xs) : Lim (12 * C) (102 * MM C M) := ⟨by have := S.c0; omega, up S.mm.1 (by decide), up (mul_lt (a := 102) (n := 7) (by decide) S.mm.2) (by decide)⟩
theorem mean_ok {xs : List D} (hb : BagOk xs) {C M : Nat} (L : Lim C M) {p : Rat × Rat} (h : Rg C M p) : ∃ q ys, m__law_mean xs [sp p] = some (.ret (.val (fr q)), ys) ∧ BagOk ys ∧ wi (p, q) = true ∧ Fx (C * 12) (M * 36) q := by
  obtain ⟨d, y1, e1, hd, B1⟩ := one_list hb (ds := parts5.map fr) (by simp [parts5]) (by simp [parts5])
  obtain ⟨c, hc, rfl⟩ := List.mem_map.mp hd
  obtain ⟨fc, c0, c1⟩ := parts5_ok c hc
  have e1 : m__law_one xs [.list [.tuple [.int 0, .int 1], .tuple [.int 1, .int 1], .tuple [.int 1, .int 2], .tuple [.int 1, .int 3], .tuple [.int 3, .int 4]]] = _ := e1
  have m1 := m_minus_eq (h.b2 L) (h.b1 L)
  have fm : Fx C (2 * M) (p.2 - p.1) := (h.f2.sub h.f1).mono (by omega)
  have lm : 2 * M < 2 ^ 181 := by
    have := L.m1
    have e : 2 ^ 181 = 2 * 2 ^ 180 := by decide
    omega
  have bm : Bq (p.2 - p.1) := fm.bq ⟨L.c0, up L.c1 (by decide)⟩ (up lm (by decide))
  have bc : Bq c := fc.bq n12 (up (n := 12) (k := 4) (by decide) (by decide))
  have m2 := m_by_eq bc bm
  have f2 : Fx (C * 12) (24 * M) (c * (p.2 - p.1)) := by
    have := fc.mul fm
    rw [Nat.mul_comm 12 C] at this
    exact this.mono (by omega)
  have f1 : Fx (C * 12) (24 * M) p.1 := (h.f1.fine 12 (by decide)).mono (by omega)
  have c12 : C * 12 < 2 ^ 184 := mul_lt (n := 180) (m := 4) L.c1 (by decide)
  have m24 : 24 * M < 2 ^ 185 := mul_lt (n := 5) (m := 180) (by decide) L.m1
  have m3 := plus2 (N := C * 12) (M := 24 * M) (by have := L.c0; omega) (up c12 (by decide)) (up m24 (by decide)) f1 f2
  have nn : 0 ≤ c * (p.2 - p.1) := Rat.mul_nonneg c0 (by have := h.le; grind)
  have le : c * (p.2 - p.1) ≤ 1 * (p.2 - p.1) := Rat.mul_le_mul_of_nonneg_right c1 (by have := h.le; grind)
  refine ⟨p.1 + c * (p.2 - p.1), y1, ?_, B1, ?_, (((h.f1.fine 12 (by decide))).add f2).mono (by omega)⟩
  · simp only [m__law_mean, runB, g__law_mean, List.length_cons, List.length_nil, if_true]
    simp [startE, lim_is, e1, m1, m2, m3, sp]
  · unfold wi
    rw [Bool.and_eq_true,
                                                                                                                  decide_eq_true_eq, decide_eq_true_eq]
    exact ⟨by grind, by grind⟩
theorem num_pos_iff (q : Rat) : 0 < q.num ↔ 0 < q := by
  have h1 := Rat.num_nonneg (q := q)
  have h2 := Rat.num_nonneg (q := -q)
  rw [Rat.neg_num] at h2
  constructor
  · intro h
    refine Rat.not_le.mp fun z => ?_
    have : 0 ≤ -q := by grind
    have := h2.mpr this
    omega
  · intro h
    refine Int.not_le.mp fun z => ?_
    have := h2.mp (by omega)
    grind
end Fr

namespace Fr
open PySem Mv Sh

/-! ### what any value is -/
section
variable (f : M Sl) (s : Sl) (es : List Sl) (i : Nat)
@[simp] theorem e_dic0 : vDic0 (s :: es) = .ok (.val (.dict [])) (s :: es) := rfl
@[simp] theorem e_dic1 (k : L2.Key) (d : D) : vDic1 k d (s :: es) = .ok (.val (.dict [(keyD k, d)])) (s :: es) := rfl
@[simp] theorem e_ext : sExt i f (s :: es) = ownAt i (s :: es) fun _ _ => (vD f (s :: es)).bind fun d e => ownAt i e fun b xs => match d with
  | .list ys => if xs.length + ys.length ≤ LIM then .ok .nx (e.set i (.own b (xs ++ ys))) else .bad
  | .tuple ys => if xs.length + ys.length ≤ LIM then .ok .nx (e.set i (.own b (xs ++ ys))) else .bad
  | _ => .bad := rfl
end
@[simp] theorem rev_list (xs : List D) : dRev (.list xs) = some (.own false xs.reverse) := rfl
@[simp] theorem rev_tuple (xs : List D) : dRev (.tuple xs) = some (.val (.tuple xs.reverse)) := rfl
@[simp] theorem bool_int (i : Int) : dBool [.int i] = some (.val (.bool (i != 0))) := rfl
def isTup : D → Bool
  | .tuple _ => true
  | _ => false
def isLst : D → Bool
  | .list _ => true
  | _ => false
def isInt : D → Bool
  | .int _ => true
  | _ => false
def isBool : D → Bool
  | .bool _ => true
  | _ => false
def isIntB : D → Bool
  | .int _ | .bool _ => true
  | _ => false
theorem kit_NoneType_tuple : L2.kitB "NoneType" "tuple" = some false := by decide +kernel
theorem kit_bool_tuple : L2.kitB "bool" "tuple" = some false := by decide +kernel
theorem kit_int_tuple : L2.kitB "int" "tuple" = some false := by decide +kernel
theorem kit_str_tuple : L2.kitB "str" "tuple" = some false := by decide +kernel
theorem kit_list_tuple : L2.kitB "list" "tuple" = some false := by decide +kernel
theorem kit_tuple_tuple : L2.kitB "tuple" "tuple" = some true := by decide +kernel
theorem kit_dict_tuple : L2.kitB "dict" "tuple" = some false := by decide +kernel
@[simp] theorem isi_tuple (d : D) : isiD "tuple" d = some (.val (.bool (isTup d))) := by
  unfold isiD
  rw [if_neg (no_plain (by decide +kernel))]
  cases d with
  | none => (show Option.map _ (L2.kitB "NoneType" "tuple") = _; rw [kit_NoneType_tuple]; rfl)
  | bool _ => (show Option.map _ (L2.kitB "bool" "tuple") = _; rw [kit_bool_tuple]; rfl)
  | int _ => (show Option.map _ (L2.kitB "int" "tuple") = _; rw [kit_int_tuple]; rfl)
  | str _ => (show Option.map _ (L2.kitB "str" "tuple") = _; rw [kit_str_tuple]; rfl)
  | list _ => (show Option.map _ (L2.kitB "list" "tuple") = _; rw [kit_list_tuple]; rfl)
  | tuple _ => (show Option.map _ (L2.kitB "tuple" "tuple") = _; rw [kit_tuple_tuple]; rfl)
  | dict _ => (show Option.map _ (L2.kitB "dict" "tuple") = _; rw [kit_dict_tuple]; rfl)
theorem kit_NoneType_list : L2.kitB "NoneType" "list" = some false := by decide +kernel
theorem kit_bool_list : L2.kitB "bool" "list" = some false := by decide +kernel
theorem kit_int_list : L2.kitB "int" "list" = some false := by decide +kernel
theorem kit_str_list : L2.kitB "str" "list" = some false := by decide +kernel
theorem kit_list_list : L2.kitB "list" "list" = some true := by decide +kernel
theorem kit_tuple_list : L2.kitB "tuple" "list" = some false := by decide +kernel
theorem kit_dict_list : L2.kitB "dict" "list" = some false := by decide +kernel
@[simp] theorem isi_list (d : D) : isiD "list" d = some (.val (.bool (isLst d))) := by
  unfold isiD
  rw [if_neg (no_plain (by decide +kernel))]
  cases d with
  | none => (show Option.map _ (L2.kitB "NoneType" "list") = _; rw [kit_NoneType_list]; rfl)
  | bool _ => (show Option.map _ (L2.kitB "bool" "list") = _; rw [kit_bool_list]; rfl)
  | int _ => (show Option.map _ (L2.kitB "int" "list") = _; rw [kit_int_list]; rfl)
  | str _ => (show Option.map _ (L2.kitB "str" "list") = _; rw [kit_str_list]; rfl)
  | list _ => (show Option.map _ (L2.kitB "list" "list") = _; rw [kit_list_list]; rfl)
  | tuple _ => (show Option.map _ (L2.kitB "tuple" "list") = _; rw [kit_tuple_list]; rfl)
  | dict _ => (show Option.map _ (L2.kitB "dict" "list") = _; rw [kit_dict_list]; rfl)
theorem kit_NoneType_int : L2.kitB "NoneType" "int" = some false := by decide +kernel
theorem kit_bool_int : L2.kitB "bool" "int" = some true := by decide +kernel
theorem kit_int_int : L2.kitB "int" "int" = some true := by decide +kernel
theorem kit_str_int : L2.kitB "str" "int" = some false := by decide +kernel
theorem kit_list_int : L2.kitB "list" "int" = some false := by decide +kernel
theorem kit_tuple_int : L2.kitB "tuple" "int" = some false := by decide +kernel
theorem kit_dict_int : L2.kitB "dict" "int" = some false := by decide +kernel
@[simp] theorem isi_int (d : D) : isiD "int" d = some (.val (.bool (isIntB d))) := by
  unfold isiD
  rw [if_neg (no_plain (by decide +kernel))]
  cases d with
  | none => (show Option.map _ (L2.kitB "NoneType" "int") = _; rw [kit_NoneType_int]; rfl)
  | bool _ => (show Option.map _ (L2.kitB "bool" "int") = _; rw [kit_bool_int]; rfl)
  | int _ => (show Option.map _ (L2.kitB "int" "int") = _; rw [kit_int_int]; rfl)
  | str _ => (show Option.map _ (L2.kitB "str" "int") = _; rw [kit_str_int]; rfl)
  | list _ => (show Option.map _ (L2.kitB "list" "int") = _; rw [kit_list_int]; rfl)
  | tuple _ => (show Option.map _ (L2.kitB "tuple" "int") = _; rw [kit_tuple_int]; rfl)
  | dict _ => (show Option.map _ (L2.kitB "dict" "int") = _; rw [kit_dict_int]; rfl)
theorem kit_NoneType_bool : L2.kitB "NoneType" "bool" = some false := by decide +kernel
theorem kit_bool_bool : L2.kitB "bool" "bool" = some true := by decide +kernel
theorem kit_int_bool : L2.kitB "int" "bool" = some false := by decide +kernel
theorem kit_str_bool : L2.kitB "str" "bool" = some false := by decide +kernel
theorem kit_list_bool : L2.kitB "list" "bool" = some false := by decide +kernel
theorem kit_tuple_bool : L2.kitB "tuple" "bool" = some false := by decide +kernel
theorem kit_dict_bool : L2.kitB "dict" "bool" = some false := by decide +kernel
@[simp] theorem isi_bool (d : D) : isiD "bool" d = some (.val (.bool (isBool d))) := by
  unfold isiD
  rw [if_neg (no_plain (by decide +kernel))]
  cases d with
  | none => (show Option.map _ (L2.kitB "NoneType" "bool") = _; rw [kit_NoneType_bool]; rfl)
  | bool _ => (show Option.map _ (L2.kitB "bool" "bool") = _; rw [kit_bool_bool]; rfl)
  | int _ => (show Option.map _ (L2.kitB "int" "bool") = _; rw [kit_int_bool]; rfl)
  | str _ => (show Option.map _ (L2.kitB "str" "bool") = _; rw [kit_str_bool]; rfl)
  | list _ => (show Option.map _ (L2.kitB "list" "bool") = _; rw [kit_list_bool]; rfl)
  | tuple _ => (show Option.map _ (L2.kitB "tuple" "bool") = _; rw [kit_tuple_bool]; rfl)
  | dict _ => (show Option.map _ (L2.kitB "dict" "bool") = _; rw [kit_dict_bool]; rfl)
@[simp] theorem isInt_i (i : Int) : isInt (.int i) = true := rfl
theorem cast_one (g : Nat) : ((g : Int) = 1) = (g = 1) := propext (by omega)
@[simp] theorem isTup_fr (q : Rat) : isTup (fr q) = true := rfl
@[simp] theorem isTup_sp (p : Rat × Rat) : isTup (sp p) = true := rfl
@[simp] theorem isTup_t (ds : List D) : isTup (.tuple ds) = true := rfl
@[simp] theorem isLst_l (ds : List D) : isLst (.list ds) = true := rfl
theorem ne_nil_any (ds : List D) : dNe (.list ds) (.list []) = some (.val (.bool (!ds.isEmpty))) := by
  by_cases h : SeqAt.shaped (.list ds) = true
  · exact ne_nil_of h
  · cases ds with
    | nil => exact absurd shaped_nil h
    | cons d ds =>
      rw [dNe]
      · rw [if_neg (fun z => h z.1)]
        rfl
      · intro _ _ z; cases z
/-! ### FRACTIONS, SIZES among any values -/
mutual
/-- numbers that are not too long -/
def Sml : D → Prop
  | .int i => i.natAbs < 2 ^ 4000
  | .list xs => Smls xs
  | .tuple xs => Smls xs
  | _ => True
def Smls : List D → Prop
  | [] => True
  | x :: xs => Sml x ∧ Smls xs
end
def frB : D → Bool
  | .tuple [.int a, .int b] => decide (0 < b) && decide (Nat.gcd a.natAbs b.natAbs = 1)
  | _ => false
theorem m_integer_any (d : D) : m__law_integer [d] = some (.ret (.val (.bool (isInt d)))) := by
  simp only [m__law_integer, runM, g__law_integer, List.length_cons, List.length_nil, if_true]
  cases d <;> simp [startE, isIntB, isBool, isInt]
theorem m_is_integer_any (d : D) : m_is_integer [d] = some (.ret (.val (.bool (isInt d)))) := by
  simp only [m_is_integer, runM, g_is_integer, List.length_cons, List.length_nil, if_true]
  cases d <;> simp [startE, isIntB, isBool, isInt]
theorem frB_ni {x y : D} (h : ¬ (isInt x = true ∧ isInt y = true)) : frB (.tuple [x, y]) = false := by
  cases x <;> first | rfl | (cases y <;> first | rfl | exact absurd ⟨rfl, rfl⟩ h)
theorem isInt_of {x : D} (h : isInt x = true) : ∃ i, x = .int i := by
  cases x <;> first | exact ⟨_, rfl⟩ | cases h
theorem m_fraction_any {d : D} (h : Sml d) : m__law_is_fraction [d] = some (.ret (.val (.bool (frB d)))) := by
  have hm := m_integer_any
  simp only [m__law_is_fraction, runM, g__law_is_fraction, List.length_cons, List.length_nil, if_true]
  match d, h with
  | .none, _ => simp [startE, isTup, frB]
  | .bool _, _ => simp [startE, isTup, frB]
  | .int _, _ => simp [startE, isTup, frB]
  | .str _, _ => simp [startE, isTup, frB]
  | .list _, _ => simp [startE, isTup, frB]
  | .dict _, _ => simp [startE, isTup, frB]
  | .tuple [], _ => simp [startE, isTup, frB]
  | .tuple [_], _ => simp [startE, isTup, frB]
  | .tuple (_ :: _ :: _ :: l), _ =>
    have : ¬ ((l.length : Int) + 1 + 1 + 1 = 2) := by omega
    simp [startE, isTup, frB, this]
  | .tuple [x, y], h =>
    by_cases hx : isInt x = true
    · obtain ⟨i, rfl⟩ := isInt_of hx
      by_cases hy : isInt y = true
      · obtain ⟨j, rfl⟩ := isInt_of hy
        have hg := m_shared_eq i j
        by_cases hj : 0 < j
        · simp [startE, isTup, frB, hm, hg, hj, cast_one]
        · simp [startE, isTup, frB, hm, hj]
      · have hf := frB_ni (x := .int i) (y := y) (fun z => hy z.2)
        simp [startE, isTup, hf, hm, hy]
    · have hf := frB_ni (x := x) (y := y) (fun z => hx z.1)
      simp [startE, isTup, hf, hm, hx]
/-- the length of a tuple -/
def tlen : D → Int
  | .tuple xs => xs.length
  | _ => 0
theorem m_tuple_of_any (e : D) (n : Int) : m_is_tuple_of [e, .int n] = some (.ret (.val (.bool (isTup e && decide (tlen e = n))))) := by
  simp only [m_is_tuple_of, runM, g_is_tuple_of, List.length_cons, List.length_nil, if_true]
  cases e <;> simp [startE, isTup, tlen]
  exact decide_eq_decide.mpr Iff.rfl
theorem m_is_fraction_any {d : D} (h : Sml d) : m_is_fraction [d] = some (.ret (.val (.bool (frB d)))) := by
  have hm := m_is_integer_any
  have ht : ∀ (e : D) (n : Int), m_is_tuple_of [e, .int n] = some (.ret (.val (.bool (isTup e && decide (tlen e = n))))) := m_tuple_of_any
  simp only [m_is_fraction, runM, g_is_fraction, List.length_cons, List.length_nil, if_true]
  match d, h with
  | .none, _ => simp [startE, isTup, frB, ht]
  | .bool _, _ => simp [startE, isTup, frB, ht]
  | .int _, _ => simp [startE, isTup, frB, ht]
  | .str _, _ => simp [startE, isTup, frB, ht]
  | .list _, _ => simp [startE, isTup, frB, ht]
  | .dict _, _ => simp [startE, isTup, frB, ht]
  | .tuple [], _ => simp [startE, isTup, frB, ht, tlen]
  | .tuple [_], _ => simp [startE, isTup, frB, ht, tlen]
  | .tuple (_ :: _ :: _ :: l), _ =>
    have : ¬ ((l.length : Int) + 1 + 1 + 1 = 2) := by omega
    simp [startE, isTup, frB, ht, tlen, this]
  | .tuple [x, y], h =>
    by_cases hx : isInt x = true
    · obtain ⟨i, rfl⟩ := isInt_of hx
      by_cases hy : isInt y = true
      · obtain ⟨j, rfl⟩ := isInt_of hy
        by_cases hj : 0 < j
        · obtain ⟨k, rfl⟩ : ∃ k : Nat, j = (k : Int) := ⟨j.toNat, by omega⟩
          have hg := m_common_eq i.natAbs k
          have hk : 0 < k := by omega
          simp [startE, isTup, frB, hm, ht, tlen, hg, hk, cast_one]
        · simp [startE, isTup, frB, hm, ht, tlen, hj]
      · have hf := frB_ni (x := .int i) (y := y) (fun z => hy z.2)
        simp [startE, isTup, hf, hm, hy, ht, tlen]
    · have hf := frB_ni (x := x) (y := y) (fun z => hx z.1)
      simp [startE, isTup, hf, hm, hx, ht, tlen]
end Fr

namespace Fr
open PySem Mv Sh

theorem frB_fr {d : D} (h : frB d = true) : ∃ q : Rat, d = fr q := by
  match d, h with
  | .tuple [.int a, .int b], h =>
    have h : (decide (0 < b) && decide (Nat.gcd a.natAbs b.natAbs = 1)) = true := h
    rw [Bool.and_eq_true, decide_eq_true_eq, decide_eq_true_eq] at h
    obtain ⟨k, rfl⟩ : ∃ k : Nat, b = (k : Int) := ⟨b.toNat, by omega⟩
    exact ⟨⟨a, k, by omega, h.2⟩, rfl⟩
theorem fr_frB (q : Rat) : frB (fr q) = true := by
  show (decide ((0 : Int) < q.den) && decide (Nat.gcd q.num.natAbs (q.den : Int).natAbs = 1)) = true
  have := q.den_pos
  have h2 : Nat.gcd q.num.natAbs (q.den : Int).natAbs = 1 := q.reduced
  rw [Bool.and_eq_true,
                                                                                                                decide_eq_true_eq, decide_eq_true_eq]
  exact ⟨by omega, h2⟩
/-- a fraction from 0 on -/
def nnB : D → Bool
  | .tuple [.int a, .int b] => frB (.tuple [.int a, .int b]) && decide (0 ≤ a)
  | _ => false
def szB (n : Nat) : D → Bool
  | .tuple ds => decide (ds.length = n) && ds.all nnB
  | _ => false
theorem bools_map (bs : List Bool) : boolsOf (bs.map PyData.bool) = some bs := by
  induction bs with
  | nil => rfl
  | cons b bs ih =>
    show (boolsOf (bs.map PyData.bool)).map (b :: ·) = _
    rw [ih]
    rfl
theorem all_of {α : Type} (p : α → Bool) (xs : List α) : dAll [.list (xs.map fun x => .bool (p x))] = some (.val (.bool (xs.all p))) := by
  show (boolsOf (xs.map fun x => .bool (p x))).map _ = _
  have e : (xs.map fun x => PyData.bool (p x)) = (xs.map p).map PyData.bool := by rw [List.map_map]; rfl
  rw [e, bools_map]
  simp [List.all_map]
end Fr

namespace Fr
open PySem Mv Sh

/-! ### sums of fractions of unlike dens -/
def Bn (B : Nat) (q : Rat) : Prop := q.num.natAbs ≤ 2 ^ B ∧ q.den ≤ 2 ^ B
theorem Bn.mono {B B' : Nat} {q : Rat} (h : Bn B q) (le : B ≤ B') : Bn B' q := ⟨Nat.le_trans h.1 (Nat.pow_le_pow_right (by decide) le), Nat.le_trans h.2 (Nat.pow_le_pow_right (by decide) le)⟩
theorem Bn.bq {B : Nat} {q : Rat} (h : Bn B q) (hB : B < 4000) : Bq q := ⟨Nat.lt_of_le_of_lt h.1 (Nat.pow_lt_pow_right (by decide) hB), Nat.lt_of_le_of_lt h.2 (Nat.pow_lt_pow_right (by decide) hB)⟩
theorem Bn.own {B : Nat} {q : Rat} (h : Bn B q) : Fx q.den (2 ^ B) q := ⟨q.num, h.1, (Rat.num_divInt_den q).symm⟩
theorem Bn.of_fx {N M B : Nat} {q : Rat} (h : Fx N M q) (n0 : 0 < N) (hN : N ≤ 2 ^ B) (hM : M ≤ 2 ^ B) : Bn B q := ⟨Nat.le_trans (h.num n0).1 hM, Nat.le_trans (h.num n0).2 hN⟩
/-- a sum of k such -/
structure Sm (B k : Nat) (x : Rat) : Prop where
  ex : ∃ D A : Nat, 0 < D ∧ Fx D A x ∧ D ≤ 2 ^ (B * k) ∧ A ≤ k * 2 ^ (B * k)
theorem Sm.zero {B : Nat} : Sm B 0 0 := ⟨⟨1, 0, by decide, Fx.zero, Nat.one_le_two_pow, by omega⟩⟩
theorem Sm.add {B k : Nat} {x q : Rat} (h : Sm B k x) (hq : Bn B q) : Sm B (k + 1) (x + q) := by
  obtain ⟨D, A, d0, f, dl, al⟩ := h.ex
  have q0 := q.den_pos
  have f1 : Fx (D * q.den) (A * q.den) x := f.fine q.den q0
  have f2 : Fx (D * q.den) (2 ^ B * D) q := by
    have := hq.own.fine D d0
    rwa [Nat.mul_comm q.den D] at this
  have e : 2 ^ (B * (k + 1)) = 2 ^ (B * k) * 2 ^ B := by rw [← Nat.pow_add]; congr 1
  refine ⟨⟨D * q.den, A * q.den + 2 ^ B * D, Nat.mul_pos d0 q0, f1.add f2, ?_, ?_⟩⟩
  · rw [e]
    exact Nat.mul_le_mul dl hq.2
  · rw [e, Nat.succ_mul]
    refine Nat.add_le_add ?_ ?_
    · rw [← Nat.mul_assoc]
      exact Nat.mul_le_mul al hq.2
    · rw [Nat.mul_comm (2 ^ B)]
      exact Nat.mul_le_mul_right _ dl
theorem Sm.bn {B k : Nat} {x : Rat} (h : Sm B k x) : Bn (B * k + k) x := by
  obtain ⟨D, A, d0, f, dl, al⟩ := h.ex
  have hk : k ≤ 2 ^ k := Nat.le_of_lt Nat.lt_two_pow_self
  refine Bn.of_fx f d0 (Nat.le_trans dl (Nat.pow_le_pow_right (by decide) (by omega))) (Nat.le_trans al ?_)
  rw [Nat.pow_add, Nat.mul_comm]
  exact Nat.mul_le_mul_left _ hk
theorem bn_mono_len {B n m : Nat} (h : n ≤ m) : B * n + n ≤ B * m + m := Nat.add_le_add (Nat.mul_le_mul_left _ h) h
theorem added_bn_loop {B : Nat} (b : MS)
    (hb : b = sSet 1 (vCall m_reduced (vCons (vOp dAdd (vOp dMul (vIxv 1 (vC (.int 0))) (vVar 3)) (vOp dMul (vVar 2) (vIxv 1 (vC (.int 1))))) (vCons (vOp dMul (vIxv 1 (vC (.int 1))) (vVar 3)) (vNil))))) :
    ∀ (qs : List Rat) (x : Rat) (k : Nat) (s0 s2 s3 : Sl), (∀ q ∈ qs, Bn B q) → Sm B k x → B * (k + qs.length) + (k + qs.length) < 4000 → B < 4000 → ∃ t2 t3, forL (pTup (pCons (pNm 2) (pCons (pNm 3) (pNil)))) b (qs.map fr) [s0, .val (fr x), s2, s3] = .ok .nx [s0, .val (fr (x + sumQ qs)), t2, t3]
  | [], x, k, s0, s2, s3, _, _, _, _ => ⟨s2, s3, by rw [sumQ, Rat.add_zero]; rfl⟩
  | q :: qs, x, k, s0, s2, s3, hq, hx, hB, hB2 => by
    have h1 := hq q List.mem_cons_self
    rw [List.length_cons] at hB
    obtain ⟨t2, t3, h⟩ := added_bn_loop b hb qs (x + q) (k + 1) s0 (.val (.int q.num)) (.val (.int q.den)) (fun r hr => hq r (List.mem_cons_of_mem _ hr)) (hx.add h1) (by rw [show k + 1 + qs.length = k + (qs.length + 1) by omega]; exact hB) hB2
    have b1 : Bq x := hx.bn.bq (Nat.lt_of_le_of_lt (bn_mono_len (by omega)) hB)
    have b2 : Bq q := h1.bq hB2
    refine ⟨t2, t3, ?_⟩
    rw [List.map_cons, forL_nx (e1 := [s0, .val (fr x), .val (.int q.num), .val (.int q.den)]) (e2 := [s0, .val (fr (x + q)), .val (.int q.num), .val (.int q.den)]) (by simp [fr]) ?_, h, sumQ, Rat.add_assoc]
    rw [hb]
    simp [mul_nd b1 b2, mul_nd b2 b1, mul_dd b1 b2, m_reduced_eq (dd_ne x q) (dd_small b1 b2), add_val]
theorem m_added_bn {B : Nat} {qs : List Rat} {d0 : D} (h0 : d0 = .list (qs.map fr) ∨ d0 = .tuple (qs.map fr)) (hq : ∀ q ∈ qs, Bn B q) (hB : B * qs.length + qs.length < 4000) (hB2 : B < 4000) : m_added [d0] = some (.ret (.val (fr (sumQ qs)))) := by
  obtain ⟨t2, t3, h⟩ := added_bn_loop _ rfl qs 0 0 (.val d0) .no .no hq Sm.zero (by rw [Nat.zero_add]; exact hB) hB2
  rw [Rat.zero_add] at h
  have e0 : PyData.tuple [.int 0, .int 1] = fr 0 := rfl
  simp only [m_added, runM, g_added, List.length_cons, List.length_nil, if_true]
  rcases h0 with rfl | rfl <;> simp [startE, e0, h]
theorem m_plus_b {B : Nat} {qs : List Rat} {d0 : D} (h0 : d0 = .list (qs.map fr) ∨ d0 = .tuple (qs.map fr)) (hq : ∀ q ∈ qs, Bn B q) (hB : B * qs.length + qs.length + B < 8000) : m__law_plus [d0] = some (.ret (.val (fr (sumQ qs)))) := by
  have e : (2 ^ B) ^ qs.length = 2 ^ (B * qs.length) := by rw [Nat.pow_mul]
  refine m_plus_bn (N := 2 ^ B) (M := 2 ^ B) (Nat.two_pow_pos B) h0 hq ?_ ?_ ?_
  · rw [e, Nat.mul_assoc, ← Nat.pow_add]
    have hk : qs.length < 2 ^ qs.length := Nat.lt_two_pow_self
    have h1 : qs.length * 2 ^ (B + B * qs.length) < 2 ^ qs.length * 2 ^ (B + B * qs.length) := Nat.mul_lt_mul_of_pos_right hk (Nat.two_pow_pos _)
    rw [← Nat.pow_add] at h1
    exact up h1 (by omega)
  · rw [e]
    exact Nat.pow_lt_pow_right
                                                                                                                  (by decide) (by omega)
  · exact Nat.pow_lt_pow_right (by decide) (by omega)
/-! ### heaps of any value -/
def toI : D → Int
  | .int i => i
  | _ => 0
theorem toI_map (hs : List Int) : (hs.map PyData.int).map toI = hs := by
  rw [List.map_map]
  have : toI ∘ PyData.int = id := rfl
  rw [this, List.map_id]
end Fr

namespace Sg
open PySem Mv Sh Fr
/-! ### spans with signs -/
abbrev Z := (Rat × Rat) × Int
def lowS : List Z → Rat
  | [] => 0
  | z :: zs => (if z.2 = 1 then z.1.1 else -z.1.2) + lowS zs
def highS : List Z → Rat
  | [] => 0
  | z :: zs => (if z.2 = 1 then z.1.2 else -z.1.1) + highS zs
def mi (a b : Rat) : Rat := if b < a then b else a
/-- amounts raised from the least sum on -/
def goA : List Z → Rat → List Rat
  | [], _ => []
  | z :: zs, r => (if z.2 = 1 then z.1.1 + mi r (z.1.2 - z.1.1) else z.1.2 - mi r (z.1.2 - z.1.1)) :: goA zs (r - mi r (z.1.2 - z.1.1))
def goR : List Z → Rat → Rat
  | [], r => r
  | z :: zs, r => goR zs (r - mi r (z.1.2 - z.1.1))
def sgn (as : List Rat) (gs : List Int) : Rat := sumQ ((as.zip gs).map fun x => x.1 * (x.2 : Rat))
structure Zok (z : Z) : Prop where
  le : z.1.1 ≤ z.1.2
  s : z.2 = 1 ∨ z.2 = -1
theorem min_cases (a b : Rat) : (mi a b = a ∧ a ≤ b) ∨ (mi a b = b ∧ b ≤ a) := by
  unfold mi
  split
  · rename_i h
    exact .inr ⟨rfl, Rat.le_of_lt h⟩
  · rename_i h
    exact .inl ⟨rfl, Rat.not_lt.mp h⟩
theorem goA_len : ∀ (zs : List Z) (r : Rat), (goA zs r).length = zs.length
  | [], _ => rfl
  | _ :: zs, _ => by rw [goA, List.length_cons, goA_len zs, List.length_cons]
theorem goR_nn : ∀ (zs : List Z) (r : Rat), 0 ≤ r → 0 ≤ goR zs r
  | [], _, h => h
  | z :: zs, r, h => by
    rw [goR]
    refine goR_nn zs _ ?_
    rcases min_cases r (z.1.2 - z.1.1) with ⟨e, l⟩ | ⟨e, l⟩ <;> rw [e] <;> grind
theorem goR_zero : ∀ (zs : List Z), (∀ z ∈ zs, Zok z) → ∀ r : Rat, 0 ≤ r → (goR zs r = 0 ↔ r ≤ highS zs - lowS zs)
  | [], _, r, h => by
    rw [goR, highS, lowS]
    constructor <;> intro e <;> grind
  | z :: zs, hz, r, h => by
    have Z0 := hz z (List.mem_cons_self ..)
    have ih := goR_zero zs (fun y hy => hz y (List.mem_cons_of_mem _ hy))
    have wide : 0 ≤ highS zs - lowS zs := by
      have := (ih 0 Rat.le_refl).mp (by
        have a := goR_nn zs 0 Rat.le_refl
        have key : ∀ ws : List Z, (∀ w ∈ ws, Zok w) → goR ws 0 = 0 := fun ws => by
          induction ws with
          | nil => intro _; rfl
          | cons w ws ih2 =>
            intro hw
            have W := (hw w (List.mem_cons_self ..)).le
            rw [goR]
            have m0 : mi 0 (w.1.2 - w.1.1) = 0 := if_neg (Rat.not_lt.mpr (by grind))
            rw [m0]
            have e0 : (0 : Rat) - 0 = 0 := by grind
            rw [e0]
            exact ih2 fun v hv => hw v (List.mem_cons_of_mem _ hv)
        exact key zs fun y hy => hz y (List.mem_cons_of_mem _ hy))
      exact this
    have le := Z0.le
    have hl : highS (z :: zs) - lowS (z :: zs) = (z.1.2 - z.1.1) + (highS zs - lowS zs) := by
      rw [highS, lowS]
      rcases Z0.s with e | e <;> rw [e]
      · rw [if_pos rfl, if_pos rfl]; grind
      · rw [if_neg (by decide), if_neg (by decide)]; grind
    rw [goR, hl]
    rcases min_cases r (z.1.2 - z.1.1) with ⟨e, l⟩ | ⟨e, l⟩
    · rw [e, ih (r - r) (by grind)]
      constructor <;> intro _ <;> grind
    · rw [e, ih (r - (z.1.2 - z.1.1)) (by grind)]
      constructor <;> intro _ <;> grind
theorem goA_in : ∀ (zs : List Z), (∀ z ∈ zs, Zok z) → ∀ r : Rat, 0 ≤ r → ∀ x ∈ zs.zip (goA zs r), x.1.1.1 ≤ x.2 ∧ x.2 ≤ x.1.1.2
  | [], _, _, _, x, hx => by cases hx
  | z :: zs, hz, r, h, x, hx => by
    have Z0 := hz z (List.mem_cons_self ..)
    have le := Z0.le
    rw [goA, List.zip_cons_cons] at hx
    rcases List.mem_cons.mp hx with
                                                                                                                  rfl | hx
    · dsimp only
      rcases min_cases r (z.1.2 - z.1.1) with ⟨e, l⟩ | ⟨e, l⟩ <;> rw [e] <;> split <;> constructor <;> grind
    · refine goA_in zs (fun y hy => hz y (List.mem_cons_of_mem _ hy)) _ ?_ x hx
      rcases min_cases r (z.1.2 - z.1.1) with ⟨e, l⟩ | ⟨e, l⟩ <;> rw [e] <;> grind
theorem goA_sum : ∀ (zs : List Z), (∀ z ∈ zs, Zok z) → ∀ r : Rat, sgn (goA zs r) (zs.map (·.2)) = lowS zs + (r - goR zs r)
  | [], _, r => by
    rw [goR, lowS]
    show (0 : Rat) = 0 + (r - r)
    grind
  | z :: zs, hz, r => by
    have Z0 := hz z (List.mem_cons_self ..)
    have ih := goA_sum zs (fun y hy => hz y (List.mem_cons_of_mem _ hy)) (r - mi r (z.1.2 - z.1.1))
    have e1 : sgn (goA (z :: zs) r) ((z :: zs).map (·.2)) = (if z.2 = 1 then z.1.1 + mi r (z.1.2 - z.1.1) else z.1.2 - mi r (z.1.2 - z.1.1)) * (z.2 : Rat) + sgn (goA zs (r - mi r (z.1.2 - z.1.1))) (zs.map (·.2)) := rfl
    rw [e1, ih, goR, lowS]
    rcases Z0.s with e | e <;> rw [e]
    · rw [if_pos rfl, if_pos rfl]; push_cast; grind
    · rw [if_neg (by decide), if_neg (by decide)]; push_cast; grind
/-- a signing of spans -/
structure Sgn (ss : List (Rat × Rat)) (as : List Rat) (gs : List Int) : Prop where
  la : as.length = ss.length
  lg : gs.length = ss.length
  s : ∀ g ∈ gs, g = 1 ∨ g = -1
  i : ∀ x ∈ ss.zip as, x.1.1 ≤ x.2 ∧ x.2 ≤ x.1.2
  z : sgn as gs = 0
/-! ### all signs -/
def Pm (gs : List Int) : Prop := ∀ g ∈ gs, g = 1 ∨ g = -1
def pats : Nat → List (List Int)
  | 0 => [[]]
  | k + 1 => (pats k).flatMap fun p => if k = 0 then [p ++ [1]] else [p ++ [1], p ++ [-1]]
theorem pats_mem : ∀ (n : Nat) (gs : List Int), gs ∈ pats n ↔ gs.length = n ∧ Pm gs ∧ ∀ g, gs.head? = some g → g = 1
  | 0, gs => by
    rw [pats, List.mem_singleton]
    constructor
    · rintro rfl
      exact ⟨rfl, fun g hg => (List.not_mem_nil hg).elim, fun g hg => by cases hg⟩
    · rintro ⟨h, -⟩
      exact List.eq_nil_of_length_eq_zero h
  | n + 1, gs => by
    rw [pats, List.mem_flatMap]
    constructor
    · rintro ⟨p, hp, hg⟩
      obtain ⟨l, pm, hd⟩ := (pats_mem n p).mp hp
      have app : ∀ g, (g = 1 ∨ g = -1) → (n = 0 → g = 1) → gs = p ++ [g] → gs.length = n + 1 ∧ Pm gs ∧ ∀ g, gs.head? = some g → g = 1 := fun g h1 h2 e => by
        subst e
        refine ⟨by rw [List.length_append, l]; rfl, fun x hx => ?_, fun x hx => ?_⟩
        · rcases List.mem_append.mp hx with
                                                                                                                        hx | hx
          · exact pm x hx
          · rw [List.mem_singleton.mp hx]; exact h1
        · cases p with
          | nil =>
            have : n = 0 := by rw [← l]; rfl
            cases hx
            exact h2 this
          | cons y p =>
            cases hx
            exact hd _ rfl
      by_cases h0 : n = 0
      · rw [if_pos h0, List.mem_singleton] at hg
        exact app 1 (.inl rfl) (fun _ => rfl) hg
      · rw [if_neg h0] at hg
        simp only [List.mem_cons, List.not_mem_nil, or_false] at hg
        rcases hg with hg | hg
        · exact app 1 (.inl rfl) (fun _ => rfl) hg
        · exact app (-1) (.inr rfl) (fun z => absurd z h0) hg
    · rintro ⟨l, pm, hd⟩
      have ne : gs ≠ [] := fun e => by rw [e] at l; simp at l
      have e := (List.dropLast_concat_getLast ne).symm
      have hl := pm _ (List.getLast_mem ne)
      refine ⟨gs.dropLast, (pats_mem n _).mpr ⟨by rw [List.length_dropLast, l]; rfl, fun g hg => pm g (List.dropLast_subset gs hg), fun g hg => ?_⟩, ?_⟩
      · refine hd g ?_
        rw [e]
        cases hdl : gs.dropLast with
        | nil => rw [hdl] at hg; cases hg
        | cons y ys => rw [hdl] at hg; exact hg
      · by_cases h0 : n = 0
        · rw [if_pos h0, List.mem_singleton]
          subst h0
          match gs, l with
          | [x], _ =>
            have := hd x rfl
            subst this
            rfl
        · rw [if_neg h0]
          simp only [List.mem_cons, List.not_mem_nil, or_false]
          rcases hl with q | q
          · left
            rw [← q]
            exact e
          · right
            rw [← q]
            exact e
theorem pats_len : ∀ n : Nat, (pats n).length ≤ 2 ^ n
  | 0 => by simp [pats]
  | n + 1 => by
    rw [pats]
    have key : ∀ l : List (List Int), (l.flatMap fun p => if n = 0 then [p ++ [1]] else [p ++ [1], p ++ [-1]]).length ≤ 2 * l.length := fun l => by
      induction l with
      | nil => simp
      | cons p l ih =>
        rw [List.flatMap_cons, List.length_append, List.length_cons]
        have : (if n = 0 then [p ++ [1]] else [p ++ [1], p ++ [-1]]).length ≤ 2 := by split <;> simp
        omega
    have := key (pats n)
    have := pats_len n
    rw [Nat.pow_succ]
    omega
/-- all signs turned about -/
theorem flip_low : ∀ zs : List Z, (∀ z ∈ zs, z.2 = 1 ∨ z.2 = -1) → lowS (zs.map fun z => (z.1, -z.2)) = - highS zs ∧ highS (zs.map fun z => (z.1, -z.2)) = - lowS zs
  | [], _ => ⟨by show (0 : Rat) = -0; grind, by show (0 : Rat) = -0; grind⟩
  | z :: zs, h => by
    obtain ⟨a, b⟩ := flip_low zs fun y hy => h y (List.mem_cons_of_mem _ hy)
    rw [List.map_cons, lowS, highS, highS, lowS, a, b]
    have n1 : ¬ ((-1 : Int) = 1) := by decide
    have n2 : (- (-1 : Int)) = 1 := by decide
    rcases h z (List.mem_cons_self ..) with e | e <;> rw [e] <;> dsimp only
    · rw [if_neg n1, if_neg n1, if_pos rfl, if_pos rfl]
      constructor <;> grind
    · rw [if_pos n2, if_pos n2, if_neg n1, if_neg n1]
      constructor <;> grind
end Sg

namespace Fr
open PySem Mv Sh

section
variable (f g h : M Sl) (s : Sl) (es : List Sl) (o o2 : D → D → Option Sl)
@[simp] theorem e_chain : vChain o o2 f g h (s :: es) = (vD f (s :: es)).bind fun x e => (vD g e).bind fun y e2 => match o x y with
  | some (.val (.bool true)) => (vD h e2).bind fun z e3 => opt (o2 y z) e3
  | some (.val (.bool false)) => .ok (.val (.bool false)) e2
  | _ => .bad := rfl
end
@[simp] theorem e_lcv (i : Nat) (mode : List D → List D) (pat : D → En → Option En) (tt : M Bool) (el : M Sl) (vs : List Nat) (s : Sl) (es : List Sl) : vLcv i mode pat tt el vs (s :: es) = match (s :: es)[i]? with
  | some (.own false xs) => lcvR i xs (vLc (fun e => .ok (mode xs) e) pat tt el vs ((s :: es).set i .no))
  | some (.val d) => match seqOf d with
    | some xs => vLc (fun e => .ok (mode xs) e) pat tt el vs (s :: es)
    | none => .bad
  | _ => .bad := rfl
section
variable {B : Nat} {qs : List Rat} {hs : List Int}
end
end Fr

namespace Fr
open PySem Mv Sh

section
variable {B : Nat} {qs : List Rat} {hs : List Int}
end
end Fr

namespace Fr
open PySem Mv Sh

/-! ### courses of any value -/
def toQ : D → Rat
  | .tuple [.int a, .int b] => Rat.divInt a b
  | _ => 0
def toQs : D → List Rat
  | .tuple ds => ds.map toQ
  | _ => []
theorem toQ_fr (q : Rat) : toQ (fr q) = q := by
  show Rat.divInt q.num q.den = q
  exact Rat.num_divInt_den q
structure Crs (C M : Nat) (N : Net) (ds : List D) : Prop where
  len : ds.length ≤ 400
  sml : ∀ x ∈ ds, Sml x
  few : ∀ x ∈ ds, ∀ es, x = .tuple es → es.length ≤ 1000
  szs : ∀ x ∈ ds, szB N.many x = true → SzOk C M N.many (toQs x)
section
variable {C M : Nat} {N : Net} {ds : List D}
end
end Fr

namespace Fr
open PySem Mv Sh

/-! ### closings of any value -/
mutual
/-- numbers below W, at most L items anywhere -/
def Vd (W L : Nat) : D → Prop
  | .int i => i.natAbs < W
  | .list xs => xs.length ≤ L ∧ Vds W L xs
  | .tuple xs => xs.length ≤ L ∧ Vds W L xs
  | _ => True
def Vds (W L : Nat) : List D → Prop
  | [] => True
  | x :: xs => Vd W L x ∧ Vds W L xs
end
mutual
theorem Vd.mono {W L W' L' : Nat} (hw : W ≤ W') (hl : L ≤ L') : ∀ {d : D}, Vd W L d → Vd W' L' d
  | .int _, h => Nat.lt_of_lt_of_le h hw
  | .list _, h => ⟨Nat.le_trans h.1 hl, Vds.mono hw hl h.2⟩
  | .tuple _, h => ⟨Nat.le_trans h.1 hl, Vds.mono hw hl h.2⟩
  | .none, _ => trivial
  | .bool _, _ => trivial
  | .str _, _ => trivial
  | .dict _, _ => trivial
theorem Vds.mono {W L W' L' : Nat} (hw : W ≤ W') (hl : L ≤ L') : ∀ {ds : List D}, Vds W L ds → Vds W' L' ds
  | [], _ => trivial
  | _ :: _, h => ⟨Vd.mono hw hl h.1, Vds.mono hw hl h.2⟩
theorem Vd.sml {W L : Nat} (hw : W ≤ 2 ^ 4000) : ∀ {d : D}, Vd W L d → Sml d
  | .int _, h => Nat.lt_of_lt_of_le h hw
  | .list _, h => Vds.sml hw h.2
  | .tuple _, h => Vds.sml hw h.2
  | .none, _ => trivial
  | .bool _, _ => trivial
  | .str _, _ => trivial
  | .dict _, _ => trivial
theorem Vds.sml {W L : Nat} (hw : W ≤ 2 ^ 4000) : ∀ {ds : List D}, Vds W L ds → Smls ds
  | [], _ => trivial
  | _ :: _, h => ⟨Vd.sml hw h.1, Vds.sml hw h.2⟩
end
section
variable {ss : List (Rat × Rat)} {L : Nat}
end
end Fr

namespace Fr
open PySem Mv Sh

/-! ### odd values, bent ones -/
theorem add_t2 {a b : List D} (h : a.length + b.length ≤ 1000000) : dAdd (.tuple a) (.tuple b) = some (.val (.tuple (a ++ b))) := by
  rw [add_tuples, lim_is, if_pos h]
theorem cut_hi2 (xs : List D) (n : Nat) : cutD xs none (some (n : Int)) = xs.take n := by
  unfold cutD
  rw [HT.sIx_none, show HT.sIx xs.length xs.length (some (n : Int)) = min n xs.length from HT.sIx_nat _ _ n]
  rw [List.drop_zero, Nat.sub_zero, List.take_eq_take_iff]
  omega
theorem cut_lo0 (xs : List D) (n : Nat) : cutD xs (some (n : Int)) none = xs.drop n := by
  by_cases h : n ≤ xs.length
  · exact cut_drop xs (n := n) h
  · unfold cutD
    rw [HT.sIx_none, show HT.sIx xs.length 0 (some (n : Int)) = min n xs.length from HT.sIx_nat _ _ n, Nat.min_eq_right (by omega), Nat.sub_self, List.take_zero, List.drop_eq_nil_of_le (by omega)]
theorem cut_lo2 (xs : List D) (n : Nat) : cutD xs (some ((n : Int) + 1)) none = xs.drop (n + 1) := cut_lo0 xs (n + 1)
end Fr

namespace Sh
open PySem Mv
/-! ### exchanged_row -/
/-! ### is_leaving -/
/-! ### is_exchange -/
/-! ### orders_of -/
/-! ### exchanges_of -/
/-! ### classes_of -/
/-! ### _law_flat -/
/-! ### _law_sides -/
/-! ### _law_row -/
/-! ### _law_drawn_table -/
/-! ### _law_split_bounds -/
/-! ### _law_heavy_table -/
/-! ### _law_any_table -/
/-! ### _law_orders -/
/-! ### _law_piece -/
/-! ### _law_heavy_piece -/
/-! ### _law_any_piece -/
/-! ### _law_ring -/
/-! ### _law_exchanged -/
/-! ### _law_is_exchange -/
/-! ### _law_classes -/
/-! ### _law_like_table -/
/-! ### _law_some_table -/
/-! ### _law_values -/
end Sh

namespace Fr
open PySem Mv Sh

/-! ### unrolling what came later -/
section
variable (f g : M Sl) (gs : M (List D)) (o : D → D → Option Sl) (s : Sl) (es : List Sl) (i j : Nat)
@[simp] theorem e_look {α : Type} (k : D → R α) : vLook i (s :: es) k = match (s :: es)[i]? with
  | some (.val x) => k x
  | some (.own _ xs) => k (.list xs)
  | _ => .bad := by
  cases h : (s :: es)[i]? with
  | none => simp only [vLook, agOf, h]
  | some r => cases r <;> simp only [vLook, agOf, h]
@[simp] theorem e_opL : vOpL i o f (s :: es) = vLook i (s :: es) fun _ => (vD f (s :: es)).bind fun y e => vLook i e fun x => lendO (o x y) e := rfl
@[simp] theorem e_opR : vOpR o f i (s :: es) = (vD f (s :: es)).bind fun x e => vLook i e fun y => lendO (o x y) e := rfl
@[simp] theorem e_callB2 (m : List D → List D → Option (D × List D × List D)) : vCallB2 i j m (s :: es) = match ((s :: es)[i]? : Option Sl), ((s :: es)[j]? : Option Sl) with
  | some (.own b xs), some (.own b2 zs) => (match m xs zs with
    | some (d, ys, zs') => if i ≠ j then .ok (.val d) (((s :: es).set i (.own b ys)).set j (.own b2 zs')) else .bad
    | none => .bad)
  | _, _ => .bad := rfl
@[simp] theorem e_listR : vListR f (s :: es) = (vD f (s :: es)).bind fun d e => match d with
  | .int n => if n.natAbs ≤ LIM then .ok (.own false (rngD 0 n.toNat)) e else .bad
  | _ => .bad := rfl
@[simp] theorem e_listR2 : vListR2 f g (s :: es) = (vD f (s :: es)).bind fun c e => (vD g e).bind fun d e2 => match c, d with
  | .int m, .int n => if m.natAbs ≤ LIM ∧ n.natAbs ≤ LIM then .ok (.own false (rngD m (n - m).toNat)) e2 else .bad
  | _, _ => .bad := rfl
@[simp] theorem e_tupR : vTupR f (s :: es) = (vD f (s :: es)).bind fun d e => match d with
  | .int n => if n.natAbs ≤ LIM then .ok (.val (.tuple (rngD 0 n.toNat))) e else .bad
  | _ => .bad := rfl
@[simp] theorem e_sortSet : vSortSet f (s :: es) = (vD f (s :: es)).bind fun d e => match d with
  | .list ds => match intsOf ds with
    | some ns => if ns.length < 64 then .ok (.own false ((sortSet ns).map PyData.int)) e else .bad
    | none => .bad
  | _ => .bad := rfl
@[simp] theorem e_pop : vPop i gs (s :: es) = if isOwnB (s :: es) i = true then (gs (s :: es)).bind fun ks e => match ks with
    | [k] => popAt i k e
    | _ => .bad
  else .bad := rfl
@[simp] theorem e_parT (ms : List (D → MS)) : sParT ms gs (s :: es) = (gs (s :: es)).bind fun ds e => if ds.length = ms.length ∧ ds.length ≤ 1000 then runT ms ds e else .bad := rfl
end
@[simp] theorem mul2_int (i j : Int) : dMul2 (.int i) (.int j) = if mulOk i j then some (.val (.int (i * j))) else none := rfl
@[simp] theorem mul2_list (xs : List D) (j : D) : dMul2 (.list xs) j = dMul (.list xs) j := rfl
@[simp] theorem mul2_tup (xs : List D) (k : Int) : dMul2 (.tuple xs) (.int k) = if k.natAbs < 1000000 then (if xs = [] ∨ k = 1 then some (.val (.tuple xs)) else if k ≤ 0 then some (.val (.tuple [])) else dMul (.tuple xs) (.int k)) else none := rfl
/-! ### one of an own list -/
/-! ### sorting -/
/-! ### sides, rows, tables -/
structure Side where
  j : Int
  lo : Int
  hi : Int
deriving DecidableEq
structure Row where
  sides : List Side
  r0 : Int
  r1 : Int
deriving DecidableEq
structure Tab where
  n : Nat
  rows : List Row
deriving DecidableEq
structure SideOk (n : Nat) (M : Int) (s : Side) : Prop where
  j0 : 0 ≤ s.j
  j1 : s.j < n
  l0 : 0 ≤ s.lo
  le : s.lo ≤ s.hi
  hi : s.hi ≤ M
structure RowOk (n : Nat) (M : Int) (K : Nat) (r : Row) : Prop where
  all : ∀ s ∈ r.sides, SideOk n M s
  len : r.sides.length ≤ K
  r0 : 0 ≤ r.r0
  le : r.r0 ≤ r.r1
  hi : r.r1 ≤ M
structure TabOk (M : Int) (K R : Nat) (t : Tab) : Prop where
  all : ∀ r ∈ t.rows, RowOk t.n M K r
  len : t.rows.length ≤ R
theorem SideOk.mono {n : Nat} {M M' : Int} {s : Side} (h : SideOk n M s) (hm : M ≤ M') : SideOk n M' s := ⟨h.j0, h.j1, h.l0, h.le, by have := h.hi; omega⟩
theorem RowOk.mono {n : Nat} {M M' : Int} {K K' : Nat} {r : Row} (h : RowOk n M K r) (hm : M ≤ M') (hk : K ≤ K') : RowOk n M' K' r := ⟨fun s hs => (h.all s hs).mono hm, by have := h.len; omega, h.r0, h.le, by have := h.hi; omega⟩
theorem TabOk.mono {M M' : Int} {K K' R R' : Nat} {t : Tab} (h : TabOk M K R t) (hm : M ≤ M') (hk : K ≤ K') (hr : R ≤ R') : TabOk M' K' R' t := ⟨fun r hs => (h.all r hs).mono hm hk, by have := h.len; omega⟩
end Fr

namespace Sg
open PySem Mv Sh Fr
section
variable (m : List D → Option Out) (f : M Sl) (g : M (List Ag)) (s : Sl) (es : List Sl) (i : Nat)
@[simp] theorem e_callL : vCallL m g (s :: es) = (g (s :: es)).bind fun as e => match agsOf e as with
  | some ds => lendR (m ds) e
  | none => .bad := rfl
@[simp] theorem e_callL1 : vCallL1 m g (s :: es) = (g (s :: es)).bind fun as e => match agsOf e as with
  | some ds => lendR1 (m ds) e
  | none => .bad := rfl
@[simp] theorem e_anil : aNil (s :: es) = .ok [] (s :: es) := rfl
@[simp] theorem e_acons : aCons f g (s :: es) = (vD f (s :: es)).bind fun d e => (g e).bind fun as e2 => .ok (.d d :: as) e2 := rfl
@[simp] theorem e_alend : aLend i g (s :: es) = match (s :: es)[i]? with
  | some .no => .bad
  | none => .bad
  | _ => (g (s :: es)).bind fun as e2 => .ok (.slot i :: as) e2 := rfl
end
@[simp] theorem e_lc2 (it : M (List D)) (pat : D → En → Option En) (tt : M Bool) (it1 : M (List D)) (pat1 : D → En → Option En) (tt1 : M Bool) (el : M Sl) (vs vs1 : List Nat) (s : Sl) (es : En) : vLc2 it pat tt it1 pat1 tt1 el vs vs1 (s :: es) = (it (s :: es)).bind fun xs e => if noOwn e vs = true then
  (match lcL2 pat tt it1 pat1 tt1 el vs vs1 xs (wipeE e vs) with
    | .ok ys e' => if ys.length ≤ LIM then .ok (.own false ys) (backE e' e vs) else .bad
    | _ => .bad) else .bad := rfl
/-! ### sign_patterns -/
theorem lcL2_gen {α : Type} {pat pat1 : D → En → Option En} {it1 : M (List D)} {el : M Sl} {vs vs1 : List Nat} {e : En} (a : α → D) (ins outs : α → List D) : ∀ (xs : List α), (∀ x ∈ xs, ∃ s es s4 es4, pat (a x) e = some (s :: es) ∧ it1 (s :: es) = .ok (ins x) (s :: es) ∧ lcL pat1 bYes el vs1 (ins x) (wipeE (s :: es) vs1) = .ok (outs x) (s4 :: es4) ∧ wipeE (s4 :: es4) vs = e) →
    lcL2 pat bYes it1 pat1 bYes el vs vs1 (xs.map a) e = .ok (xs.flatMap outs) e
  | [], _ => rfl
  | x :: xs, h => by
    obtain ⟨s, es, s4, es4, h1, h2, h3, h4⟩ := h x (List.mem_cons_self ..)
    have ih := lcL2_gen a ins outs xs fun y hy => h y (List.mem_cons_of_mem _ hy)
    rw [List.map_cons]
    unfold lcL2
    rw [h1]
    dsimp only
    have b : bYes (s :: es) = .ok true (s :: es) := rfl
    rw [b]
    simp only [noX_ok, R.bind_ok, if_true, h2, h3, h4, ih]
    rw [List.flatMap_cons]
def sgD (gs : List Int) : D := .tuple (gs.map .int)
theorem rngD_cons (b n : Nat) : rngD (b : Int) (n + 1) = .int (b : Int) :: rngD ((b + 1 : Nat) : Int) n := by
  unfold rngD
  rw [List.range_succ_eq_map,
                                                                                                                List.map_cons, List.map_map]
  have e : ∀ k : Nat, PyData.int ((b : Int) + ((k + 1 : Nat) : Int)) = .int (((b + 1 : Nat) : Int) + (k : Int)) := fun k => by
    congr 1
    omega
  have e0 : PyData.int ((b : Int) + ((0 : Nat) : Int)) = .int (b : Int) := by
    congr 1
  rw [e0]
  congr 1
  exact List.map_congr_left fun k _ => e k
theorem pat_turn {b : Nat} (hb : b ≤ 12) (s0 s3 : Sl) : ∃ t3, b1_sign_patterns 0 [s0, .own false ((pats b).map sgD), .val (.int (b : Int)), s3, .no, .no] = .ok .nx [s0, .own false ((pats (b + 1)).map sgD), .val (.int (b : Int)), t3, .no, .no] := by
  have sgs : ∀ (l : List Int), (l.length ≤ 2) → ∀ s0' s1' s2' : Sl, lcL2 (pNm 4) bYes (vItems (vVar 3)) (pNm 5) bYes (e1_sign_patterns 0) [4, 5] [5] ((pats b).map sgD) [s0', s1', s2', .val (.tuple (l.map .int)), .no, .no] = .ok (((pats b).flatMap fun p => l.map fun g => p ++ [g]).map sgD) [s0', s1', s2', .val (.tuple (l.map .int)), .no, .no] := fun l hl s0' s1' s2' => by
    rw [List.map_flatMap]
    refine lcL2_gen (α := List Int) sgD (fun _ => l.map .int) _ _ fun p hp => ⟨s0', [s1', s2', .val (.tuple (l.map .int)), .val (sgD p), .no], s0', [s1', s2', .val (.tuple (l.map .int)), .val (sgD p), .no], rfl, ?_, ?_, rfl⟩
    · simp [seqOf, itemsOf]
    · have plen := ((pats_mem b p).mp hp).1
      rw [List.map_map]
      refine lcL_each (α := Int) PyData.int _ _ fun g hg => ⟨s0', [s1', s2', .val (.tuple (l.map .int)), .val (sgD p), .val (.int g)], rfl, rfl, ?_⟩
      have ll : (p.map PyData.int).length + 1 ≤ LIM := by rw [List.length_map, plen]; unfold LIM; omega
      have ll0 : (p.map PyData.int).length ≤ LIM := by omega
      show vD (e1_sign_patterns 0) [s0', s1', s2', .val (.tuple (l.map .int)), .val (.tuple (p.map .int)), .val (.int g)] = .ok (.tuple ((p ++ [g]).map .int)) _
      rw [List.map_append]
      show _ = R.ok (PyData.tuple (p.map PyData.int ++ [.int g])) _
      have sp : sgD p = .tuple (p.map .int) := rfl
      rw [sp]
      generalize p.map PyData.int = P at *
      generalize l.map PyData.int = L at *
      unfold e1_sign_patterns
      simp [seqOf, ll, ll0]
  have pl : (pats b).length ≤ 4096 := Nat.le_trans (pats_len b) (Nat.pow_le_pow_right (by decide) hb)
  have pl2 : ((pats b).map sgD).length ≤ LIM := by rw [List.length_map]; unfold LIM; omega
  have fl : ∀ l : List Int, l.length ≤ 2 → (((pats b).flatMap fun p => l.map fun g => p ++ [g]).map sgD).length ≤ LIM := fun l hl => by
    rw [List.length_map]
    have key : ∀ ps : List (List Int), (ps.flatMap fun p => l.map fun g => p ++ [g]).length = ps.length * l.length := fun ps => by
      induction ps with
      | nil => simp
      | cons p ps ih => rw [List.flatMap_cons, List.length_append, ih, List.length_map, List.length_cons, Nat.add_mul]; omega
    rw [key]
    have : (pats b).length * l.length ≤ 4096 * 2 := Nat.mul_le_mul pl hl
    unfold LIM
    omega
  by_cases b0 : b = 0
  · subst b0
    have g := sgs [1] (by decide) s0 (.val (.list ((pats 0).map sgD))) (.val (.int ((0 : Nat) : Int)))
    have e : ((pats 0).flatMap fun p => [1].map fun g => p ++ [g]) = pats 1 := rfl
    have f := fl [1] (by decide)
    rw [e] at g f
    refine ⟨.val (.tuple [.int 1]), ?_⟩
    simp only [List.map_cons, List.map_nil] at g
    rw [show ((0 : Nat) : Int) = 0 from rfl] at g ⊢
    generalize (pats 1).map sgD = P1 at *
    generalize (pats 0).map sgD = P0 at *
    have l1 : 1 ≤ LIM := by decide
    unfold b1_sign_patterns
    simp [l1, seqOf, noOwn, wipeE, backE, pl2, f, g]
  · have g := sgs [1, -1] (by decide) s0 (.val (.list ((pats b).map sgD))) (.val (.int (b : Int)))
    have e : ((pats b).flatMap fun p => [1, -1].map fun g => p ++ [g]) = pats (b + 1) := by
      rw [pats]
      refine congrArg (fun f => (pats b).flatMap f) (funext fun p => ?_)
      rw [if_neg b0]
      rfl
    have f := fl [1, -1] (by decide)
    rw [e] at g f
    refine ⟨.val (.tuple [.int 1, .int (-1)]), ?_⟩
    simp only [List.map_cons, List.map_nil] at g
    generalize (pats (b + 1)).map sgD = P1 at *
    generalize (pats b).map sgD = P0 at *
    have l2 : 2 ≤ LIM := by decide
    have bn : (b : Int) ≠ 0 := by omega
    unfold b1_sign_patterns
    simp [l2, seqOf, noOwn, wipeE, backE, pl2, f, g, bn, b0]
theorem sign_patterns_ok {n : Nat} (hn : n ≤ 12) : m_sign_patterns [.int (n : Int)] = some (.ret (.own false ((pats n).map sgD))) := by
  have loop : ∀ k b, b + k = n → ∀ s2 s3 : Sl, ∃ t2 t3, forL (pNm 2) (b1_sign_patterns 0) (rngD (b : Int) k) [.val (.int (n : Int)), .own false ((pats b).map sgD), s2, s3, .no, .no] = .ok .nx [.val (.int (n : Int)), .own false ((pats n).map sgD), t2, t3, .no, .no] := by
    intro k
    induction k with
    | zero =>
      intro b hb s2 s3
      have : b = n := by omega
      subst this
      exact ⟨s2, s3, rfl⟩
    | succ k ih =>
      intro b hb s2 s3
      obtain ⟨t3, tb⟩ := pat_turn (b := b) (by omega) (.val (.int (n : Int))) s3
      obtain ⟨t2, t3', e⟩ := ih (b + 1) (by omega) (.val (.int (b : Int))) t3
      refine ⟨t2, t3', ?_⟩
      rw [rngD_cons, forL_nx (e1 := [.val (.int (n : Int)), .own false ((pats b).map sgD), .val (.int (b : Int)), s3, .no, .no]) rfl tb]
      exact e
  obtain ⟨t2, t3, e⟩ := loop n 0 (by omega) .no .no
  have e : forL (pNm 2) (b1_sign_patterns 0) (rngD 0 n) [.val (.int (n : Int)), .own false [.tuple []], .no, .no, .no, .no] = _ := e
  have r0 : ∀ e, rngR [.int (n : Int)] e = .ok (rngD 0 n) e := rng_nat (by omega)
  have l0 : 0 ≤ LIM := by decide
  have l1 : 1 ≤ LIM := by decide
  generalize (pats n).map sgD = P at *
  unfold m_sign_patterns runM g_sign_patterns
  simp [startE, r0, e, l0, l1]
/-! ### signed_sum -/
theorem mul_sign (a : Rat) {g : Int} (hg : g = 1 ∨ g = -1) : PyData.tuple [.int (a.num * g), .int (a.den : Int)] = fr (a * (g : Rat)) := by
  rcases hg with rfl | rfl
  · have e : a * ((1 : Int) : Rat) = a := by push_cast; grind
    rw [e, Int.mul_one]
    rfl
  · have e : a * ((-1 : Int) : Rat) = -a := by push_cast; grind
    rw [e]
    unfold fr
    rw [Rat.neg_num, Rat.neg_den]
    congr 2
    congr 1
    omega
theorem bn_sign {B : Nat} {a : Rat} {g : Int} (h : Bn B a) (hg : g = 1 ∨ g = -1) : Bn B (a * (g : Rat)) := by
  rcases hg with rfl | rfl
  · have e : a * ((1 : Int) : Rat) = a := by push_cast; grind
    rw [e]
    exact h
  · have e : a * ((-1 : Int) : Rat) = -a := by push_cast; grind
    rw [e]
    unfold Bn at *
    rw [Rat.neg_num, Rat.neg_den, Int.natAbs_neg]
    exact h
theorem zip_fg : ∀ (qs : List Rat) (fs : List Int), zipD (qs.map fr) (fs.map .int) = (qs.zip fs).map fun z => .tuple [fr z.1, .int z.2]
  | [], _ => by simp [zipD]
  | _ :: _, [] => by simp [zipD]
  | u :: us, q :: qs => by
    have ih := zip_fg us qs
    unfold zipD at ih ⊢
    simp only [List.map_cons, List.zipWith_cons_cons, List.zip_cons_cons]
    rw [ih]
theorem signed_sum_ok {B : Nat} {as : List Rat} {gs : List Int} (hB : B ≤ 150) (hl : as.length ≤ 20) (ha : ∀ a ∈ as, Bn B a) (hg : Pm gs) {d : D} (hd : d = .list (as.map fr) ∨ d = .tuple (as.map fr)) : m_signed_sum [d, sgD gs] = some (.ret (.val (fr (sgn as gs)))) := by
  have lc : ∀ s0 s1 : Sl, lcL (pTup (pCons (pTup (pCons (pNm 3) (pCons (pNm 4) (pNil)))) (pCons (pNm 2) (pNil)))) bYes (e1_signed_sum 0) [2, 3, 4] (zipD (as.map fr) (gs.map .int)) [s0, s1, .no, .no, .no] = .ok (((as.zip gs).map fun z => z.1 * (z.2 : Rat)).map fr) [s0, s1, .no, .no, .no] := fun s0 s1 => by
    rw [zip_fg, List.map_map]
    refine lcL_each (α := Rat × Int) _ _ _ fun z hz => ⟨_, _, rfl, rfl, ?_⟩
    obtain ⟨h1, h2⟩ := List.of_mem_zip hz
    have hs := hg _ h2
    have l2 : 2 ≤ LIM := by decide
    have mo : mulOk z.1.num z.2 := .inr (.inr ⟨by rcases hs with e | e <;> rw [e] <;> decide, by rcases hs with e | e <;> rw [e] <;> decide⟩)
    have ms := mul_sign z.1 hs
    show vD (e1_signed_sum 0) [s0, s1, .val (.int z.2), .val (.int z.1.num), .val (.int (z.1.den : Int))] = .ok (fr (z.1 * (z.2 : Rat))) _
    rw [← ms]
    unfold e1_signed_sum
    simp [mo, l2]
  have zl : (zipD (as.map fr) (gs.map .int)).length ≤ LIM := by
    rw [zip_fg, List.length_map, List.length_zip]
    unfold LIM
    omega
  have ql : ((as.zip gs).map fun z => z.1 * (z.2 : Rat)).length ≤ 20 := by rw [List.length_map, List.length_zip]; omega
  have bl : B * ((as.zip gs).map fun z => z.1 * (z.2 : Rat)).length ≤ 150 * 20 := Nat.mul_le_mul hB ql
  have ad := m_added_bn (B := B) (qs := (as.zip gs).map fun z => z.1 * (z.2 : Rat)) (d0 := .list (((as.zip gs).map fun z => z.1 * (z.2 : Rat)).map fr)) (.inl rfl) (fun q hq => by
    obtain ⟨z, hz, rfl⟩ := List.mem_map.mp hq
    obtain ⟨h1, h2⟩ := List.of_mem_zip hz
    exact bn_sign (ha _ h1) (hg _ h2)) (by omega) (by omega)
  unfold sgn
  generalize (as.zip gs).map (fun z => z.1 * (z.2 : Rat)) = QS at *
  have sg : sgD gs = .tuple (gs.map .int) := rfl
  rw [sg]
  generalize gs.map PyData.int = G at *
  generalize as.map fr = A at *
  unfold m_signed_sum runM g_signed_sum
  rcases hd with rfl | rfl <;> simp [startE, seqOf, noOwn, wipeE, lc, backE, zl, ad]
end Sg

namespace Sg
open PySem Mv Sh Fr
/-! ### raised -/
theorem eqv_fr (p q : Rat) : PyData.eqv (fr p) (fr q) = decide (p = q) := by
  show PyData.eqv (.tuple [.int p.num, .int (p.den : Int)]) (.tuple [.int q.num, .int (q.den : Int)]) = _
  simp only [PyData.eqv, PyData.eqvAll, Bool.and_true]
  rw [Bool.eq_iff_iff, Bool.and_eq_true, beq_iff_eq, beq_iff_eq, decide_eq_true_eq]
  constructor
  · rintro ⟨a, b⟩
    exact Rat.ext a (by omega)
  · rintro rfl
    exact ⟨rfl, rfl⟩
theorem eq_fr (p q : Rat) : dEq (fr p) (fr q) = some (.val (.bool (decide (p = q)))) := by
  have : dEq (fr p) (fr q) = if SeqAt.shaped (fr p) = true ∧ SeqAt.shaped (fr q) = true then some (.val (.bool (PyData.eqv (fr p) (fr q)))) else lenNe false (fr p) (fr q) := rfl
  rw [this, if_pos ⟨shaped_fr p, shaped_fr q⟩, eqv_fr]
def am0 (z : Z) : Rat := if z.2 = 1 then z.1.1 else z.1.2
structure Zfx (z : Z) : Prop where
  ok : Zok z
  f1 : Fx 6 594 z.1.1
  f2 : Fx 6 594 z.1.2
theorem bq_fx {M : Nat} (hM : M ≤ 1000000) {q : Rat} (h : Fx 6 M q) : Bq q := h.bq n6 (up (n := M) (k := 20) (by omega) (by decide))
theorem bn_fx {M : Nat} (hM : M ≤ 1000000) {q : Rat} (h : Fx 6 M q) : Bn 20 q := Bn.of_fx h (by decide) (by decide) (by omega)
theorem mi_fx {M M' : Nat} {a b : Rat} (ha : Fx 6 M a) (hb : Fx 6 M' b) : Fx 6 (M + M') (mi a b) := by
  unfold mi
  split
  · exact hb.mono (by omega)
  · exact ha.mono (by omega)
theorem raise_turn {z : Z} (Zz : Zfx z) {M : Nat} (hM : M ≤ 500000) {r : Rat} (fr0 : Fx 6 M r) {k : Nat} {pre post : List Rat} {gs : List Int} (hk : pre.length = k) (hg : gs[k]? = some z.2) (s0 s7 : Sl) :
    b1_raised 0 [s0, .val (sgD gs), .own false ((pre ++ am0 z :: post).map fr), .val (fr r), .val (.int (k : Int)), .val (fr z.1.1), .val (fr z.1.2), s7, .no, .no] =
      .ok .nx [s0, .val (sgD gs), .own false ((pre ++ (if z.2 = 1 then z.1.1 + mi r (z.1.2 - z.1.1) else z.1.2 - mi r (z.1.2 - z.1.1)) :: post).map fr), .val (fr (r - mi r (z.1.2 - z.1.1))), .val (.int (k : Int)), .val (fr z.1.1), .val (fr z.1.2), .val (fr (mi r (z.1.2 - z.1.1))), .no, .no] := by
  have fw : Fx 6 1188 (z.1.2 - z.1.1) := (Zz.f2.sub Zz.f1).mono (by decide)
  have fm := mi_fx fr0 fw
  have l1 := m_less_eq (bq_fx (by decide) Zz.f2) (bq_fx (by decide) Zz.f1)
  have mq := m_least_eq (q := r) (rs := [z.1.2 - z.1.1]) (bq_fx (by omega) fr0) (fun q hq => by rw [List.mem_singleton.mp hq]; exact bq_fx (by decide) fw)
  have em : minQ r [z.1.2 - z.1.1] = mi r (z.1.2 - z.1.1) := rfl
  rw [em] at mq
  have mq : m_least_of [.list [fr r, fr (z.1.2 - z.1.1)]] = _ := mq
  have l2 := m_less_eq (bq_fx (by omega) fr0) (bq_fx (by omega) fm)
  have lm2 : 2 ≤ LIM := by decide
  have gk : L2.atI (gs.map PyData.int) (k : Int) = some (.int z.2) := by
    have kl : k < gs.length := (List.getElem?_eq_some_iff.mp hg).1
    unfold L2.atI
    rw [ix_nat (by rw [List.length_map]; exact kl)]
    show (gs.map PyData.int)[k]? = _
    rw [List.getElem?_map, hg]
    rfl
  have pl : (pre.map fr).length = k := by rw [List.length_map, hk]
  have es : ∀ x : Rat, (pre ++ x :: post).map fr = pre.map fr ++ fr x :: post.map fr := fun x => by rw [List.map_append]; rfl
  have ak : ∀ x : Rat, L2.atI ((pre ++ x :: post).map fr) (k : Int) = some (fr x) := fun x => by
    unfold L2.atI
    rw [ix_nat (by rw [List.length_map, List.length_append, List.length_cons]; omega)]
    show ((pre ++ x :: post).map fr)[k]? = _
    rw [es, List.getElem?_append_right (by omega), pl, Nat.sub_self]
    rfl
  have sk : ∀ (x y : Rat) (e : En) (i : Nat), setAt i (.int (k : Int)) (fr y) e = setAt i (.int (k : Int)) (fr y) e := fun _ _ _ _ => rfl
  have am := ak (am0 z)
  have sg : sgD gs = .tuple (gs.map .int) := rfl
  rw [sg]
  have st : ∀ y : Rat, (((pre ++ am0 z :: post).map fr).set k (fr y)) = (pre ++ y :: post).map fr := fun y => by
    rw [es, es, List.set_append_right _ _ (by omega), pl, Nat.sub_self]
    rfl
  have ixk : L2.ixN ((pre ++ am0 z :: post).map fr).length (k : Int) = some k := ix_nat (by rw [List.length_map, List.length_append, List.length_cons]; omega)
  rcases Zz.ok.s with e | e
  · have a0 : am0 z = z.1.1 := if_pos e
    have ad := m_added2 (N := 6) (M := M + 1188) n6 (Zz.f1.mono (by omega)) (fm) (up (n := 2 * (M + 1188)) (k := 20) (by omega) (by decide))
    rw [if_pos e]
    rw [e] at gk
    rw [a0] at am st ixk ⊢
    have st := st (z.1.1 + mi r (z.1.2 - z.1.1))
    rw [← st]
    generalize (pre ++ z.1.1 :: post).map fr = AM at *
    generalize gs.map PyData.int = G at *
    generalize fr (mi r (z.1.2 - z.1.1)) = FM at *
    generalize fr (z.1.2 - z.1.1) = FW at *
    generalize fr (r - mi r (z.1.2 - z.1.1)) = FR2 at *
    generalize fr (z.1.1 + mi r (z.1.2 - z.1.1)) = FA at *
    generalize fr r = FR at *
    generalize fr z.1.1 = F1 at *
    generalize fr z.1.2 = F2 at *
    unfold b1_raised
    simp [l1, mq, l2, gk, am, ad, lm2, ownAt, setAt, ixk]
  · have a0 : am0 z = z.1.2 := if_neg (by rw [e]; decide)
    have ls := m_less_eq (bq_fx (by decide) Zz.f2) (bq_fx (by omega) fm)
    have ne : ¬ z.2 = 1 := by rw [e]; decide
    rw [if_neg ne]
    rw [e] at gk
    rw [a0] at am st ixk ⊢
    have st := st (z.1.2 - mi r (z.1.2 - z.1.1))
    rw [← st]
    generalize (pre ++ z.1.2 :: post).map fr = AM at *
    generalize gs.map PyData.int = G at *
    generalize fr (mi r (z.1.2 - z.1.1)) = FM at *
    generalize fr (z.1.2 - z.1.1) = FW at *
    generalize fr (r - mi r (z.1.2 - z.1.1)) = FR2 at *
    generalize fr (z.1.2 - mi r (z.1.2 - z.1.1)) = FA at *
    generalize fr r = FR at *
    generalize fr z.1.1 = F1 at *
    generalize fr z.1.2 = F2 at *
    unfold b1_raised
    simp [l1, mq, l2, gk, am, ls, lm2, ownAt, setAt, ixk]
end Sg

namespace Sg
open PySem Mv Sh Fr
theorem goR_fx : ∀ (zs : List Z), (∀ z ∈ zs, Zfx z) → ∀ (M : Nat) (r : Rat), 0 ≤ r → Fx 6 M r → ∀ a ∈ goA zs r, Fx 6 2376 a
  | [], _, _, _, _, _, a, ha => by cases ha
  | z :: zs, hz, M, r, r0, hr, a, ha => by
    have Zz := hz z (List.mem_cons_self ..)
    rw [goA] at ha
    have fw : Fx 6 1188 (z.1.2 - z.1.1) := (Zz.f2.sub Zz.f1).mono (by decide)
    have le := Zz.ok.le
    have fm : Fx 6 1188 (mi r (z.1.2 - z.1.1)) := by
      rcases min_cases r (z.1.2 - z.1.1) with ⟨e, l⟩ | ⟨e, l⟩ <;> rw [e]
      · -- r is between 0 and the width
        obtain ⟨u, hu, eu⟩ := hr
        obtain ⟨v, hv, ev⟩ := fw
        rw [ev, eu] at l
        rw [eu] at r0 ⊢
        rw [divInt_eq, divInt_eq, Rat.div_def, Rat.div_def] at l
        rw [divInt_eq, Rat.div_def] at r0
        have six : (0 : Rat) < ((6 : Nat) : Rat)⁻¹ := by grind
        have uv : u ≤ v := by
          have h1 : (u : Rat) ≤ (v : Rat) := Rat.not_lt.mp fun c => by
            have := Rat.mul_lt_mul_of_pos_right c six
            exact absurd l (Rat.not_le.mpr this)
          exact_mod_cast h1
        have u0 : 0 ≤ u := by
          have h1 : (0 : Rat) ≤ (u : Rat) := Rat.not_lt.mp fun c => by
            have := Rat.mul_lt_mul_of_pos_right c six
            rw [Rat.zero_mul] at this
            exact absurd r0 (Rat.not_le.mpr this)
          exact_mod_cast h1
        exact ⟨u, by omega, rfl⟩
      · exact fw
    rcases List.mem_cons.mp ha with
                                                                                                                  rfl | ha
    · split
      · exact (Zz.f1.add fm).mono (by decide)
      · exact (Zz.f2.sub fm).mono (by decide)
    · refine goR_fx zs (fun y hy => hz y (List.mem_cons_of_mem _ hy)) (M + 1188) (r - mi r (z.1.2 - z.1.1)) ?_ (hr.sub fm) a ha
      rcases min_cases r (z.1.2 - z.1.1) with ⟨e, l⟩ | ⟨e, l⟩ <;> rw [e] <;> grind
theorem raise_loop : ∀ (zs : List Z), (∀ z ∈ zs, Zfx z) → ∀ (k M : Nat) (r : Rat) (pre : List Rat) (gs : List Int), M + 1200 * zs.length ≤ 400000 → Fx 6 M r → pre.length = k → gs.drop k = zs.map (·.2) → ∀ s0 s4 s5 s6 s7 : Sl,
    ∃ t4 t5 t6 t7, forL (pTup (pCons (pNm 4) (pCons (pTup (pCons (pNm 5) (pCons (pNm 6) (pNil)))) (pNil)))) (b1_raised 0) (((zs.map (·.1)).zipIdx k).map numD) [s0, .val (sgD gs), .own false ((pre ++ zs.map am0).map fr), .val (fr r), s4, s5, s6, s7, .no, .no] =
      .ok .nx [s0, .val (sgD gs), .own false ((pre ++ goA zs r).map fr), .val (fr (goR zs r)), t4, t5, t6, t7, .no, .no]
  | [], _, k, M, r, pre, gs, _, _, _, _, s0, s4, s5, s6, s7 => ⟨s4, s5, s6, s7, rfl⟩
  | z :: zs, hz, k, M, r, pre, gs, hM, hr, hk, hg, s0, s4, s5, s6, s7 => by
    have Zz := hz z (List.mem_cons_self ..)
    rw [List.length_cons] at hM
    have fw : Fx 6 1188 (z.1.2 - z.1.1) := (Zz.f2.sub Zz.f1).mono (by decide)
    have fm := mi_fx hr fw
    have g0 : gs[k]? = some z.2 := by
      have := congrArg (fun l => l[0]?) hg
      simpa using this
    have g1 : gs.drop (k + 1) = zs.map (·.2) := by
      have := congrArg List.tail hg
      rw [List.tail_drop] at this
      exact this
    have tn := raise_turn Zz (M := M) (by omega) hr (k := k) (pre := pre) (post := zs.map am0) (gs := gs) hk g0 s0 s7
    have fr' : Fx 6 (M + 1188) (r - mi r (z.1.2 - z.1.1)) := by
      unfold mi
      split
      · exact hr.sub fw
      · have e : r - r = 0 := by grind
        rw [e]
        exact Fx.zero
    obtain ⟨t4, t5, t6, t7, e⟩ := raise_loop zs (fun y hy => hz y (List.mem_cons_of_mem _ hy)) (k + 1) (M + 1188) (r - mi r (z.1.2 - z.1.1)) (pre ++ [if z.2 = 1 then z.1.1 + mi r (z.1.2 - z.1.1) else z.1.2 - mi r (z.1.2 - z.1.1)]) gs (by omega) fr' (by rw [List.length_append, hk]; rfl) g1 s0 (.val (.int (k : Int))) (.val (fr z.1.1)) (.val (fr z.1.2)) (.val (fr (mi r (z.1.2 - z.1.1))))
    refine ⟨t4, t5, t6, t7, ?_⟩
    have ei : (((z :: zs).map (·.1)).zipIdx k).map numD = PyData.tuple [.int (k : Int), sp z.1] :: ((zs.map (·.1)).zipIdx (k + 1)).map numD := rfl
    rw [ei]
    have em : (z :: zs).map am0 = am0 z :: zs.map am0 := rfl
    rw [em, forL_nx (e1 := [s0, .val (sgD gs), .own false ((pre ++ am0 z :: zs.map am0).map fr), .val (fr r), .val (.int (k : Int)), .val (fr z.1.1), .val (fr z.1.2), s7, .no, .no]) rfl tn]
    rw [List.append_assoc] at e
    rw [List.append_assoc] at e
    exact e
theorem am0_sum : ∀ zs : List Z, (∀ z ∈ zs, Zok z) → sgn (zs.map am0) (zs.map (·.2)) = lowS zs
  | [], _ => rfl
  | z :: zs, h => by
    have ih := am0_sum zs fun y hy => h y (List.mem_cons_of_mem _ hy)
    have e1 : sgn ((z :: zs).map am0) ((z :: zs).map (·.2)) = am0 z * (z.2 : Rat) + sgn (zs.map am0) (zs.map (·.2)) := rfl
    rw [e1, ih, lowS]
    unfold am0
    rcases (h z (List.mem_cons_self ..)).s with e | e <;> rw [e]
    · rw [if_pos rfl, if_pos rfl]; push_cast; grind
    · rw [if_neg (by decide), if_neg (by decide)]; push_cast; grind
theorem lowS_fx : ∀ zs : List Z, (∀ z ∈ zs, Zfx z) → Fx 6 (594 * zs.length) (lowS zs)
  | [], _ => Fx.zero
  | z :: zs, h => by
    have ih := lowS_fx zs fun y hy => h y (List.mem_cons_of_mem _ hy)
    have Zz := h z (List.mem_cons_self ..)
    rw [lowS, List.length_cons, Nat.mul_add, Nat.mul_one, Nat.add_comm]
    refine Fx.add ?_ ih
    split
    · exact Zz.f1
    · have := (Fx.zero (N := 6) (M := 0)).sub Zz.f2
      rw [Nat.zero_add] at this
      have e : 0 - z.1.2 = -z.1.2 := by grind
      rwa [e] at this
theorem zip_pg : ∀ (zs : List Z), zipD ((zs.map (·.1)).map sp) ((zs.map (·.2)).map .int) = zs.map fun z => .tuple [sp z.1, .int z.2]
  | [] => rfl
  | z :: zs => by
    have ih := zip_pg zs
    unfold zipD at ih ⊢
    simp only [List.map_cons, List.zipWith_cons_cons]
    rw [ih]
noncomputable def raiseD (zs : List Z) : D := open Classical in if 0 ≤ 0 - lowS zs ∧ goR zs (0 - lowS zs) = 0 then .tuple ((goA zs (0 - lowS zs)).map fr) else .none
theorem raised_ok {zs : List Z} (hl : zs.length ≤ 12) (hz : ∀ z ∈ zs, Zfx z) : m_raised [.tuple ((zs.map (·.1)).map sp), sgD (zs.map (·.2))] = some (.ret (.val (raiseD zs))) := by
  have lc : ∀ s0 s1 s2 s3 s4 s5 s6 s7 : Sl, lcL (pTup (pCons (pNm 8) (pCons (pNm 9) (pNil)))) bYes (e1_raised 0) [8, 9] (zipD ((zs.map (·.1)).map sp) ((zs.map (·.2)).map .int)) [s0, s1, s2, s3, s4, s5, s6, s7, .no, .no] = .ok ((zs.map am0).map fr) [s0, s1, s2, s3, s4, s5, s6, s7, .no, .no] := fun s0 s1 s2 s3 s4 s5 s6 s7 => by
    rw [zip_pg, List.map_map (l := zs)]
    refine lcL_each (α := Z) _ _ _ fun z hzm => ⟨_, _, rfl, rfl, ?_⟩
    have i0 : dIx (sp z.1) (.int 0) = some (.val (fr z.1.1)) := rfl
    have i1 : dIx (sp z.1) (.int 1) = some (.val (fr z.1.2)) := rfl
    have ea : (fr ∘ am0) z = fr (am0 z) := rfl
    rw [ea]
    unfold am0
    generalize sp z.1 = S at *
    by_cases h : z.2 = 1
    · rw [if_pos h]
      show vD (e1_raised 0) [s0, s1, s2, s3, s4, s5, s6, s7, .val S, .val (.int z.2)] = _
      rw [h]
      unfold e1_raised
      simp [i0]
    · rw [if_neg h]
      show vD (e1_raised 0) [s0, s1, s2, s3, s4, s5, s6, s7, .val S, .val (.int z.2)] = _
      unfold e1_raised
      simp [i1, h]
  have zl : (zipD ((zs.map (·.1)).map sp) ((zs.map (·.2)).map .int)).length ≤ LIM := by
    rw [zip_pg, List.length_map]
    unfold LIM
    omega
  have pm : Pm (zs.map (·.2)) := fun g hg => by
    obtain ⟨z, hzm, rfl⟩ := List.mem_map.mp hg
    exact (hz z hzm).ok.s
  have ss := signed_sum_ok (B := 20) (as := zs.map am0) (gs := zs.map (·.2)) (by decide) (by rw [List.length_map]; omega) (fun a ha => by
    obtain ⟨z, hzm, rfl⟩ := List.mem_map.mp ha
    have Zz := hz z hzm
    unfold am0
    split
    · exact bn_fx (by decide) Zz.f1
    · exact bn_fx (by decide) Zz.f2) pm (.inl rfl)
  rw [am0_sum zs fun z hzm => (hz z hzm).ok] at ss
  have fl := lowS_fx zs hz
  have ls := m_less_eq (a := 0) (b := lowS zs) (bq_fx (M := 0) (by decide) Fx.zero) (bq_fx (by omega) fl)
  have fr0 : Fx 6 (594 * zs.length) (0 - lowS zs) := by
    have := (Fx.zero (N := 6) (M := 0)).sub fl
    rwa [Nat.zero_add] at this
  have cm := m_compared_eq (a := 0 - lowS zs) (b := 0) (bq_fx (by omega) fr0) (bq_fx (M := 0) (by decide) Fx.zero)
  have cl := cmpI_lt (0 - lowS zs) 0
  obtain ⟨t4, t5, t6, t7, lp⟩ := raise_loop zs hz 0 (594 * zs.length) (0 - lowS zs) [] (zs.map (·.2)) (by omega) fr0 rfl (by rw [List.drop_zero]) (.val (.tuple ((zs.map (·.1)).map sp))) .no .no .no .no
  have ez : enumD ((zs.map (·.1)).map sp) = ((zs.map (·.1)).zipIdx 0).map numD := enum_zip _
  rw [← ez] at lp
  rw [List.nil_append, List.nil_append] at lp
  have el : (enumD ((zs.map (·.1)).map sp)).length ≤ LIM := by
    rw [ez, List.length_map, List.length_zipIdx, List.length_map]
    unfold LIM
    omega
  have eq := eq_fr (goR zs (0 - lowS zs)) 0
  have z0 : fr 0 = .tuple [.int 0, .int 1] := rfl
  rw [z0] at ls cm eq
  have zw : fr (lowS zs) = .tuple [.int (lowS zs).num, .int ((lowS zs).den : Int)] := rfl
  rw [zw] at ss ls
  have gl : ((goA zs (0 - lowS zs)).map fr).length ≤ LIM := by rw [List.length_map, goA_len]; unfold LIM; omega
  have sg : sgD (zs.map (·.2)) = .tuple ((zs.map (·.2)).map .int) := rfl
  rw [sg] at ss lp ⊢
  unfold raiseD
  by_cases h0 : 0 ≤ 0 - lowS zs
  · have n0 : ¬ cmpI (0 - lowS zs) 0 < 0 := fun c => absurd h0 (Rat.not_le.mpr (cl.mp c))
    by_cases h1 : goR zs (0 - lowS zs) = 0
    · rw [if_pos ⟨h0, h1⟩]
      rw [decide_eq_true h1] at eq
      generalize (goA zs (0 - lowS zs)).map fr = GA at *
      generalize fr (goR zs (0 - lowS zs)) = GR at *
      generalize cmpI (0 - lowS zs) 0 = CI at *
      generalize fr (0 - lowS zs) = LA at *
      generalize (zs.map am0).map fr = AM at *
      generalize (zs.map (·.1)).map sp = SP at *
      generalize (zs.map (·.2)).map PyData.int = GI at *
      unfold m_raised runM g_raised s1_raised s2_raised s3_raised s4_raised s5_raised
      simp [startE, seqOf, noOwn, wipeE, lc, backE, zl, agsOf, agOf, ss, lendR1, scal1, scal0, ls, cm, n0, lp, el, eq]
    · rw [if_neg fun c => h1 c.2]
      rw [decide_eq_false h1] at eq
      generalize (goA zs (0 - lowS zs)).map fr = GA at *
      generalize fr (goR zs (0 - lowS zs)) = GR at *
      generalize cmpI (0 - lowS zs) 0 = CI at *
      generalize fr (0 - lowS zs) = LA at *
      generalize (zs.map am0).map fr = AM at *
      generalize (zs.map (·.1)).map sp = SP at *
      generalize (zs.map (·.2)).map PyData.int = GI at *
      unfold m_raised runM g_raised s1_raised s2_raised s3_raised s4_raised s5_raised
      simp [startE, seqOf, noOwn, wipeE, lc, backE, zl, agsOf, agOf, ss, lendR1, scal1, scal0, ls, cm, n0, lp, el, eq]
  · have n0 : cmpI (0 - lowS zs) 0 < 0 := cl.mpr (Rat.not_le.mp h0)
    rw [if_neg fun c => h0 c.1]
    generalize cmpI (0 - lowS zs) 0 = CI at *
    generalize fr (0 - lowS zs) = LA at *
    generalize (zs.map am0).map fr = AM at *
    generalize (zs.map (·.1)).map sp = SP at *
    generalize (zs.map (·.2)).map PyData.int = GI at *
    unfold m_raised runM g_raised s1_raised s2_raised s3_raised s4_raised s5_raised
    simp [startE, seqOf, noOwn, wipeE, lc, backE, zl, agsOf, agOf, ss, lendR1, scal1, scal0, ls, cm, n0]
/-! ### signing -/
def Do (zs : List Z) : Prop := lowS zs ≤ 0 ∧ 0 ≤ highS zs
theorem raise_do {zs : List Z} (hz : ∀ z ∈ zs, Zfx z) : (0 ≤ 0 - lowS zs ∧ goR zs (0 - lowS zs) = 0) ↔ Do zs := by
  unfold Do
  constructor
  · rintro ⟨h0, h1⟩
    have := (goR_zero zs (fun z h => (hz z h).ok) _ h0).mp h1
    exact ⟨by grind, by grind⟩
  · rintro ⟨h0, h1⟩
    have z0 : 0 ≤ 0 - lowS zs := by grind
    exact ⟨z0, (goR_zero zs (fun z h => (hz z h).ok) _ z0).mpr (by grind)⟩
structure Spz (ss : List (Rat × Rat)) : Prop where
  len : ss.length ≤ 12
  all : ∀ p ∈ ss, Span 6 594 p
theorem Spz.z {ss : List (Rat × Rat)} (S : Spz ss) {gs : List Int} (hg : Pm gs) : ∀ z ∈ ss.zip gs, Zfx z := fun z hz => by
  obtain ⟨h1, h2⟩ := List.of_mem_zip hz
  have P := S.all _ h1
  exact ⟨⟨P.le, hg _ h2⟩, P.f1, P.f2⟩
theorem zip_fst {ss : List (Rat × Rat)} {gs : List Int} (h : gs.length = ss.length) : (ss.zip gs).map (·.1) = ss ∧ (ss.zip gs).map (·.2) = gs := ⟨List.map_fst_zip (by omega), List.map_snd_zip (by omega)⟩
theorem Spz.raised {ss : List (Rat × Rat)} (S : Spz ss) {gs : List Int} (hg : Pm gs) (hl : gs.length = ss.length) :
    (m_raised [.tuple (ss.map sp), sgD gs] = some (.ret (.val .none)) ∧ ¬ Do (ss.zip gs)) ∨
    ∃ as, m_raised [.tuple (ss.map sp), sgD gs] = some (.ret (.val (.tuple (as.map fr)))) ∧ Sgn ss as gs ∧ (∀ a ∈ as, Fx 6 2376 a) ∧ Do (ss.zip gs) := by
  have hz := S.z hg
  have zl : (ss.zip gs).length = ss.length := by rw [List.length_zip, hl]; omega
  have r := raised_ok (by rw [zl]; exact S.len) hz
  obtain ⟨e1, e2⟩ := zip_fst hl
  rw [e1, e2] at r
  have d := raise_do hz
  unfold raiseD at r
  by_cases h : Do (ss.zip gs)
  · rw [if_pos (d.mpr h)] at r
    have z0 := (d.mpr h).1
    refine .inr ⟨_, r, ⟨by rw [goA_len, zl], hl, hg, fun x hx => ?_, ?_⟩, goR_fx _ hz _ _ z0 (by
      have := (Fx.zero (N := 6) (M := 0)).sub (lowS_fx _ hz)
      exact this), h⟩
    · obtain ⟨k, hk, ek⟩ := List.getElem_of_mem hx
      have gi := goA_in _ (fun z hzm => (hz z hzm).ok) _ z0
      rw [List.length_zip, goA_len, zl] at hk
      have hk' : k < ((ss.zip gs).zip (goA (ss.zip gs) (0 - lowS (ss.zip gs)))).length := by rw [List.length_zip, goA_len, zl]; omega
      have := gi _ (List.getElem_mem hk')
      rw [List.getElem_zip, List.getElem_zip] at this
      rw [List.getElem_zip] at ek
      subst ek
      exact this
    · have := goA_sum _ (fun z hzm => (hz z hzm).ok) (0 - lowS (ss.zip gs))
      rw [e2, (d.mpr h).2] at this
      rw [this]
      grind
  · rw [if_neg fun c => h (d.mp c)] at r
    exact .inl ⟨r, h⟩
theorem signing_ok {ss : List (Rat × Rat)} (S : Spz ss) :
    (m_signing [.tuple (ss.map sp)] = some (.ret (.val .none)) ∧ ∀ gs, Pm gs → gs.length = ss.length → ¬ Do (ss.zip gs)) ∨
    ∃ as gs, m_signing [.tuple (ss.map sp)] = some (.ret (.val (.tuple [.tuple (as.map fr), sgD gs]))) ∧ Sgn ss as gs ∧ (∀ a ∈ as, Fx 6 2376 a) ∧ Do (ss.zip gs) := by
  have loop : ∀ ps : List (List Int), (∀ gs ∈ ps, Pm gs ∧ gs.length = ss.length) → ∀ s1 s2 : Sl,
      (∃ t1 t2, forL (pNm 1) (b1_signing 0) (ps.map sgD) [.val (.tuple (ss.map sp)), s1, s2] = .ok .nx [.val (.tuple (ss.map sp)), t1, t2] ∧ ∀ gs ∈ ps, ¬ Do (ss.zip gs)) ∨
      ∃ as gs e', forL (pNm 1) (b1_signing 0) (ps.map sgD) [.val (.tuple (ss.map sp)), s1, s2] = .ok (.rt (.val (.tuple [.tuple (as.map fr), sgD gs]))) e' ∧ Sgn ss as gs ∧ (∀ a ∈ as, Fx 6 2376 a) ∧ Do (ss.zip gs) := fun ps => by
    induction ps with
    | nil => intro _ s1 s2; exact .inl ⟨s1, s2, rfl, fun _ h => (List.not_mem_nil h).elim⟩
    | cons gs ps ih =>
      intro hps s1 s2
      obtain ⟨pm, gl⟩ := hps gs (List.mem_cons_self ..)
      rcases S.raised pm gl with ⟨e, no⟩ | ⟨as, e, sn, fx, d⟩
      · have bo : b1_signing 0 [.val (.tuple (ss.map sp)), .val (sgD gs), s2] = .ok .nx [.val (.tuple (ss.map sp)), .val (sgD gs), .val .none] := by
          have di : dIsnt .none .none = some (.val (.bool false)) := rfl
          generalize sgD gs = G at *
          generalize ss.map sp = SD at *
          unfold b1_signing
          simp [e, di]
        rcases ih (fun g hg => hps g (List.mem_cons_of_mem _ hg)) (.val (sgD gs)) (.val .none) with ⟨t1, t2, e2, no2⟩ | ⟨as, gs2, e', e2, r⟩
        · refine .inl ⟨t1, t2, ?_, fun g hg => ?_⟩
          · rw [List.map_cons, forL_nx rfl bo]
            exact e2
          · rcases List.mem_cons.mp hg with rfl | hg
            · exact no
            · exact no2 g hg
        · refine .inr ⟨as, gs2, e', ?_, r⟩
          rw [List.map_cons, forL_nx rfl bo]
          exact e2
      · have bo : b1_signing 0 [.val (.tuple (ss.map sp)), .val (sgD gs), s2] = .ok (.rt (.val (.tuple [.tuple (as.map fr), sgD gs]))) [.val (.tuple (ss.map sp)), .val (sgD gs), .val (.tuple (as.map fr))] := by
          have di : dIsnt (.tuple (as.map fr)) .none = some (.val (.bool true)) := rfl
          have l2 : 2 ≤ LIM := by decide
          generalize sgD gs = G at *
          generalize ss.map sp = SD at *
          generalize as.map fr = AD at *
          unfold b1_signing
          simp [e, di, l2]
        refine .inr ⟨as, gs, [.val (.tuple (ss.map sp)), .val (sgD gs), .val (.tuple (as.map fr))], ?_, sn, fx, d⟩
        rw [List.map_cons, forL]
        show (match b1_signing 0 [.val (.tuple (ss.map sp)), .val (sgD gs), s2] with | .ok .nx e2 => forL (pNm 1) (b1_signing 0) (ps.map sgD) e2 | .ok .ct e2 => forL (pNm 1) (b1_signing 0) (ps.map sgD) e2 | .ok .bk e2 => .ok .nx e2 | .ok (.rt r) e2 => .ok (.rt r) e2 | .exc c fs e2 => .exc c fs e2 | .bad => .bad) = _
        rw [bo]
  have sl := S.len
  have sp0 := sign_patterns_ok (n := ss.length) sl
  have dl : dLen [.tuple (ss.map sp)] = some (.val (.int (ss.length : Int))) := by
    show some (Sl.val (.int ((ss.map sp).length : Nat))) = _
    rw [List.length_map]
  have pl : ((pats ss.length).map sgD).length ≤ LIM := by
    rw [List.length_map]
    have := Nat.le_trans (pats_len ss.length) (Nat.pow_le_pow_right (n := 2) (by decide) sl)
    unfold LIM
    omega
  have flen : (ss.map sp).length = ss.length := List.length_map ..
  rcases loop (pats ss.length) (fun gs h => let ⟨a, b, _⟩ := (pats_mem _ _).mp h; ⟨b, a⟩) .no .no with ⟨t1, t2, e, no⟩ | ⟨as, gs, e', e, r⟩
  · refine .inl ⟨?_, fun gs pm gl d => ?_⟩
    · generalize (pats ss.length).map sgD = PD at *
      generalize hSD : ss.map sp = SD at *
      unfold m_signing runM g_signing
      simp [startE, flen, sp0, seqOf, e]
    · -- the first sign may be turned about
      cases gs with
      | nil =>
        exact no [] ((pats_mem _ _).mpr ⟨gl, pm, fun g hg => by cases hg⟩) d
      | cons g gs =>
        rcases pm g (List.mem_cons_self ..) with rfl | rfl
        · exact no _ ((pats_mem _ _).mpr ⟨gl, pm, fun g hg => by cases hg; rfl⟩) d
        · have pm' : Pm ((-1 :: gs).map fun g => -g) := fun x hx => by
            obtain ⟨y, hy, rfl⟩ :=
                                                                                                                          List.mem_map.mp hx
            rcases pm y hy with rfl | rfl
            · exact .inr rfl
            · exact .inl rfl
          refine no _ ((pats_mem _ _).mpr ⟨by rw [List.length_map]; exact gl, pm', fun g hg => by cases hg; rfl⟩) ?_
          have ef : ss.zip ((-1 :: gs).map fun g => -g) = (ss.zip (-1 :: gs)).map fun z => (z.1, -z.2) := by
            rw [List.zip_map_right]
            rfl
          rw [ef]
          obtain ⟨f1, f2⟩ := flip_low (ss.zip (-1 :: gs)) fun z hz => pm _ (List.of_mem_zip hz).2
          unfold Do at d ⊢
          rw [f1, f2]
          exact ⟨by grind, by grind⟩
  · refine .inr ⟨as, gs, ?_, r⟩
    generalize (pats ss.length).map sgD = PD at *
    generalize hSD : ss.map sp = SD at *
    unfold m_signing runM g_signing
    simp [startE, flen, sp0, seqOf, e]
    rfl
end Sg

namespace Sg
open PySem Mv Sh Fr
/-! ### the law's sums of bounds -/
theorem fr_inj {p q : Rat} (h : fr p = fr q) : p = q := by
  unfold fr at h
  injection h with h
  injection h with h1 h2
  injection h2 with h2 _
  injection h1 with h1
  injection h2 with h2
  exact Rat.ext h1 (by omega)
theorem sp_inj {p q : Rat × Rat} (h : sp p = sp q) : p = q := by
  unfold sp at h
  injection h with h
  injection h with h1 h2
  injection h2 with h2 _
  exact Prod.ext (fr_inj h1) (fr_inj h2)
theorem nk_sp (p : Rat × Rat) : nkOf (sp p) = some (.tup [.tup [.num p.1.num, .num (p.1.den : Int)], .tup [.num p.2.num, .num (p.2.den : Int)]]) := by
  simp [sp, fr, nkOf, nksOf]
theorem nkOk_sp (p : Rat × Rat) : nkOk (sp p) = true := by
  unfold nkOk sp
  simp [fr, nkOf, nksOf, PySem.NestedKey.depth, PySem.NestedKey.depthAll]
def addP (T : List (Rat × Rat)) (p : Rat × Rat) : List (Rat × Rat) := if p ∈ T then T else T ++ [p]
theorem addP_mem {T : List (Rat × Rat)} {p q : Rat × Rat} : q ∈ addP T p ↔ q ∈ T ∨ q = p := by
  unfold addP
  split
  · rename_i h
    constructor
    · exact .inl
    · rintro (h2 | rfl)
      · exact h2
      · exact h
  · rw [List.mem_append, List.mem_singleton]
theorem addP_len (T : List (Rat × Rat)) (p : Rat × Rat) : (addP T p).length ≤ T.length + 1 := by
  unfold addP
  split
  · omega
  · rw [List.length_append]; exact Nat.le_refl _
theorem putN_sp (T : List (Rat × Rat)) (p : Rat × Rat) : putN (T.map sp) (sp p) = (addP T p).map sp := by
  have e : nkIn (T.map sp) (sp p) = decide (p ∈ T) := by
    unfold nkIn
    rw [List.any_map, Bool.eq_iff_iff,
                                                                                                                  List.any_eq_true, decide_eq_true_eq]
    constructor
    · rintro ⟨q, hq, h⟩
      have h : nkOf (sp q) = nkOf (sp p) := of_decide_eq_true h
      have h2 := nk_inj (sp q) (sp p) _ (h.trans (nk_sp p)) (nk_sp p)
      rw [← sp_inj h2]
      exact hq
    · intro h
      exact ⟨p, h, decide_eq_true rfl⟩
  unfold putN addP
  rw [e]
  by_cases h : p ∈ T
  · rw [if_pos (decide_eq_true h), if_pos h]
  · rw [if_neg (by simpa using h), if_neg h, List.map_append]
    rfl
def plusP (p l : Rat × Rat) : Rat × Rat := (p.1 + l.1, p.2 + l.2)
def minusP (p l : Rat × Rat) : Rat × Rat := (p.1 - l.2, p.2 - l.1)
def stepK (l : Rat × Rat) : List (Rat × Rat) → List (Rat × Rat) → List (Rat × Rat)
  | [], T => T
  | p :: S, T => stepK l S (addP (addP T (plusP p l)) (minusP p l))
theorem stepK_mem {l q : Rat × Rat} : ∀ (S T : List (Rat × Rat)), q ∈ stepK l S T ↔ q ∈ T ∨ ∃ p ∈ S, q = plusP p l ∨ q = minusP p l
  | [], T => by simp [stepK]
  | p :: S, T => by
    rw [stepK, stepK_mem S, addP_mem, addP_mem]
    constructor
    · rintro (((h | h) | h) | ⟨x, hx, h⟩)
      · exact .inl h
      · exact .inr ⟨p, List.mem_cons_self .., .inl h⟩
      · exact .inr ⟨p, List.mem_cons_self .., .inr h⟩
      · exact .inr ⟨x, List.mem_cons_of_mem _ hx, h⟩
    · rintro (h | ⟨x, hx, h⟩)
      · exact .inl (.inl (.inl h))
      · rcases List.mem_cons.mp hx with rfl | hx
        · rcases h with h | h
          · exact .inl (.inl (.inr h))
          · exact .inl (.inr h)
        · exact .inr ⟨x, hx, h⟩
theorem stepK_len {l : Rat × Rat} : ∀ (S T : List (Rat × Rat)), (stepK l S T).length ≤ T.length + 2 * S.length
  | [], T => by rw [stepK]; omega
  | p :: S, T => by
    rw [stepK, List.length_cons]
    have a := stepK_len (l := l) S (addP (addP T (plusP p l)) (minusP p l))
    have b := addP_len T (plusP p l)
    have c := addP_len (addP T (plusP p l)) (minusP p l)
    omega
def nO (s : Sl) : Prop := s = .no ∨ ∃ d, s = .val d
theorem keys_ok {l : Rat × Rat} (P : Span 6 594 l) {M : Nat} (hM : M ≤ 100000) (s0 s1 : Sl) : ∀ (S T : List (Rat × Rat)), (∀ p ∈ S, Fx 6 M p.1 ∧ Fx 6 M p.2) → ∀ s5 s6 : Sl, ∃ t5 t6,
    keysL (pTup (pCons (pNm 5) (pCons (pNm 6) (pNil)))) (e1__law_some_signs 0) (e2__law_some_signs 0) (S.map sp) (T.map sp) [s0, s1, .val (fr l.1), .val (fr l.2), .no, s5, s6] = .ok ((stepK l S T).map sp) [s0, s1, .val (fr l.1), .val (fr l.2), .no, t5, t6] ∧ (nO s5 → nO s6 → nO t5 ∧ nO t6)
  | [], T, _, s5, s6 => ⟨s5, s6, rfl, fun a b => ⟨a, b⟩⟩
  | p :: S, T, h, s5, s6 => by
    obtain ⟨f1, f2⟩ := h p (List.mem_cons_self ..)
    have g1 : Fx 6 (M + 594) p.1 := f1.mono (by omega)
    have g2 : Fx 6 (M + 594) p.2 := f2.mono (by omega)
    have l1 : Fx 6 (M + 594) l.1 := P.f1.mono (by omega)
    have l2 : Fx 6 (M + 594) l.2 := P.f2.mono (by omega)
    have m20 : M + 594 < 2 ^ 1000 := up (n := M + 594) (k := 20) (by omega) (by decide)
    have a1 := plus2 (N := 6) (M := M + 594) (by decide) (up (n := 6) (k := 3) (by decide) (by decide)) m20 g1 l1
    have a2 := plus2 (N := 6) (M := M + 594) (by decide) (up (n := 6) (k := 3) (by decide) (by decide)) m20 g2 l2
    have b1 := m_minus_eq (bq_fx (by omega) g1) (bq_fx (by omega) l2)
    have b2 := m_minus_eq (bq_fx (by omega) g2) (bq_fx (by omega) l1)
    have lm2 : 2 ≤ LIM := by decide
    have k1 : vD (e1__law_some_signs 0) [s0, s1, .val (fr l.1), .val (fr l.2), .no, .val (fr p.1), .val (fr p.2)] = .ok (sp (plusP p l)) [s0, s1, .val (fr l.1), .val (fr l.2), .no, .val (fr p.1), .val (fr p.2)] := by
      have es : sp (plusP p l) = .tuple [fr (p.1 + l.1), fr (p.2 + l.2)] := rfl
      rw [es]
      generalize fr (p.1 + l.1) = A at *
      generalize fr (p.2 + l.2) = B at *
      unfold e1__law_some_signs
      simp [a1, a2, lm2]
    have k2 : vD (e2__law_some_signs 0) [s0, s1, .val (fr l.1), .val (fr l.2), .no, .val (fr p.1), .val (fr p.2)] = .ok (sp (minusP p l)) [s0, s1, .val (fr l.1), .val (fr l.2), .no, .val (fr p.1), .val (fr p.2)] := by
      have es : sp (minusP p l) = .tuple [fr (p.1 - l.2), fr (p.2 - l.1)] := rfl
      rw [es]
      generalize fr (p.1 - l.2) = A at *
      generalize fr (p.2 - l.1) = B at *
      unfold e2__law_some_signs
      simp [b1, b2, lm2]
    obtain ⟨t5, t6, ih, nn⟩ := keys_ok P hM s0 s1 S (addP (addP T (plusP p l)) (minusP p l)) (fun q hq => h q (List.mem_cons_of_mem _ hq)) (.val (fr p.1)) (.val (fr p.2))
    refine ⟨t5, t6, ?_, fun _ _ => nn (.inr ⟨_, rfl⟩) (.inr ⟨_, rfl⟩)⟩
    rw [List.map_cons, keysL]
    show ((noX (vD (e1__law_some_signs 0) [s0, s1, .val (fr l.1), .val (fr l.2), .no, .val (fr p.1), .val (fr p.2)])).bind fun y e2 => if nkOk y = true then (noX (vD (e2__law_some_signs 0) e2)).bind fun z e3 => if nkOk z = true then keysL (pTup (pCons (pNm 5) (pCons (pNm 6) (pNil)))) (e1__law_some_signs 0) (e2__law_some_signs 0) (S.map sp) (putN (putN (T.map sp) y) z) e3 else .bad else .bad) = _
    rw [k1]
    simp only [noX_ok, R.bind_ok]
    rw [if_pos (nkOk_sp _), k2]
    simp only [noX_ok, R.bind_ok]
    rw [if_pos (nkOk_sp _), putN_sp, putN_sp]
    exact ih
structure Sums (ss : List (Rat × Rat)) (S : List (Rat × Rat)) : Prop where
  len : S.length ≤ 2 ^ ss.length
  mem : ∀ p, p ∈ S ↔ ∃ gs, Pm gs ∧ gs.length = ss.length ∧ p = (lowS (ss.zip gs), highS (ss.zip gs))
theorem low_app : ∀ (zs : List Z) (z : Z), lowS (zs ++ [z]) = lowS zs + lowS [z] ∧ highS (zs ++ [z]) = highS zs + highS [z]
  | [], z => by
    rw [List.nil_append]
    constructor
    · show lowS [z] = 0 + lowS [z]; grind
    · show highS [z] = 0 + highS [z]; grind
  | y :: zs, z => by
    obtain ⟨a, b⟩ := low_app zs z
    rw [List.cons_append, lowS, lowS, highS, highS, a, b]
    exact ⟨by grind, by grind⟩
theorem zip_app {ss : List (Rat × Rat)} {gs : List Int} (h : gs.length = ss.length) (l : Rat × Rat) (g : Int) : (ss ++ [l]).zip (gs ++ [g]) = ss.zip gs ++ [(l, g)] := by
  rw [List.zip_append h.symm]
  rfl
theorem Sums.step {ss S : List (Rat × Rat)} (h : Sums ss S) (l : Rat × Rat) : Sums (ss ++ [l]) (stepK l S []) := by
  have key : ∀ (gs : List Int), gs.length = ss.length → ∀ g, (g = 1 ∨ g = -1) → (lowS ((ss ++ [l]).zip (gs ++ [g])), highS ((ss ++ [l]).zip (gs ++ [g]))) = if g = 1 then plusP (lowS (ss.zip gs), highS (ss.zip gs)) l else minusP (lowS (ss.zip gs), highS (ss.zip gs)) l := fun gs hl g hg => by
    rw [zip_app hl]
    obtain ⟨a, b⟩ := low_app (ss.zip gs) (l, g)
    rw [a, b]
    have n1 : ¬ ((-1 : Int) = 1) := by decide
    rcases hg with rfl | rfl
    · rw [if_pos rfl]
      unfold plusP
      refine Prod.ext ?_ ?_
      · show lowS (ss.zip gs) + ((if (1 : Int) = 1 then l.1 else -l.2) + 0) = lowS (ss.zip gs) + l.1
        rw [if_pos rfl]; grind
      · show highS (ss.zip gs) + ((if (1 : Int) = 1 then l.2 else -l.1) + 0) = highS (ss.zip gs) + l.2
        rw [if_pos rfl]; grind
    · rw [if_neg n1]
      unfold minusP
      refine Prod.ext ?_ ?_
      · show lowS (ss.zip gs) + ((if (-1 : Int) = 1 then l.1 else -l.2) + 0) = lowS (ss.zip gs) - l.2
        rw [if_neg n1]; grind
      · show highS (ss.zip gs) + ((if (-1 : Int) = 1 then l.2 else -l.1) + 0) = highS (ss.zip gs) - l.1
        rw [if_neg n1]; grind
  refine ⟨?_, fun p => ?_⟩
  · have := stepK_len (l := l) S []
    have := h.len
    rw [List.length_append, List.length_singleton, Nat.pow_succ]
    simp only [List.length_nil] at *
    omega
  · rw [stepK_mem]
    constructor
    · rintro (h0 | ⟨q, hq, e⟩)
      · exact (List.not_mem_nil h0).elim
      · obtain ⟨gs, pm, gl, rfl⟩ := (h.mem q).mp hq
        have app : ∀ g, (g = 1 ∨ g = -1) → Pm (gs ++ [g]) := fun g hg x hx => by
          rcases List.mem_append.mp hx with
                                                                                                                        hx | hx
          · exact pm x hx
          · rw [List.mem_singleton.mp hx]; exact hg
        rcases e with e | e
        · refine ⟨gs ++ [1], app 1 (.inl rfl), by rw [List.length_append, List.length_append, gl]; rfl, ?_⟩
          rw [key gs gl 1 (.inl rfl), if_pos rfl]
          exact e
        · refine ⟨gs ++ [-1], app (-1) (.inr rfl), by rw [List.length_append, List.length_append, gl]; rfl, ?_⟩
          rw [key gs gl (-1) (.inr rfl), if_neg (by decide)]
          exact e
    · rintro ⟨gs, pm, gl, rfl⟩
      rw [List.length_append, List.length_singleton] at gl
      have ne : gs ≠ [] := fun e => by rw [e] at gl; simp at gl
      have eg := (List.dropLast_concat_getLast ne).symm
      have hs := pm _ (List.getLast_mem ne)
      generalize gs.getLast ne = g at eg hs
      generalize hd : gs.dropLast = gd at eg
      have gl2 : gd.length = ss.length := by rw [← hd, List.length_dropLast, gl]; rfl
      have pm2 : Pm gd := fun x hx => pm x (by rw [eg]; exact List.mem_append_left _ hx)
      rw [eg, key gd gl2 g hs]
      refine .inr ⟨(lowS (ss.zip gd), highS (ss.zip gd)), (h.mem _).mpr ⟨gd, pm2, gl2, rfl⟩, ?_⟩
      rcases hs with rfl | rfl
      · rw [if_pos rfl]; exact .inl rfl
      · rw [if_neg (by decide)]; exact .inr rfl
theorem highS_fx : ∀ zs : List Z, (∀ z ∈ zs, Zfx z) → Fx 6 (594 * zs.length) (highS zs)
  | [], _ => Fx.zero
  | z :: zs, h => by
    have ih := highS_fx zs fun y hy => h y (List.mem_cons_of_mem _ hy)
    have Zz := h z (List.mem_cons_self ..)
    rw [highS, List.length_cons, Nat.mul_add, Nat.mul_one, Nat.add_comm]
    refine Fx.add ?_ ih
    split
    · exact Zz.f2
    · have := (Fx.zero (N := 6) (M := 0)).sub Zz.f1
      rw [Nat.zero_add] at this
      have e : 0 - z.1.1 = -z.1.1 := by grind
      rwa [e] at this
theorem num_nonpos {q : Rat} : q.num ≤ 0 ↔ q ≤ 0 := by
  have h : 0 < q.num ↔ 0 < q := num_pos_iff q
  constructor
  · intro a
    exact Rat.not_lt.mp fun c => by have := h.mpr c; omega
  · intro a
    exact Int.not_lt.mp fun c => absurd (h.mp c) (Rat.not_lt.mpr a)
theorem some_signs_ok {ss : List (Rat × Rat)} (hs : Spz ss) : ∃ b : Bool, m__law_some_signs [.tuple (ss.map sp)] = some (.ret (.val (.bool b))) ∧ (b = true ↔ ∃ gs, Pm gs ∧ gs.length = ss.length ∧ Do (ss.zip gs)) := by
  obtain ⟨e', lp, pre, S, s2, s3, s4, s5, s6, hp, rfl, hS, n5, n6⟩ := for_each (pat := pTup (pCons (pNm 2) (pCons (pNm 3) (pNil)))) (b := b1__law_some_signs 0) sp
    (fun xs e => ∃ (pre : List (Rat × Rat)) (S : List (Rat × Rat)) (s2 s3 s4 s5 s6 : Sl), pre ++ xs = ss ∧ e = [.val (.tuple (ss.map sp)), .own false (S.map sp), s2, s3, s4, s5, s6] ∧ Sums pre S ∧ nO s5 ∧ nO s6)
    (fun x xs e ⟨pre, S, s2, s3, s4, s5, s6, hp, he, hS, n5, n6⟩ => by
      subst he
      have hl : pre.length < 12 := by
        have := hs.len
        have := congrArg List.length hp
        rw [List.length_append, List.length_cons] at this
        omega
      have hx : x ∈ ss := by rw [← hp]; simp
      have sub : ∀ p ∈ pre, p ∈ ss := fun p h => by rw [← hp]; exact List.mem_append_left _ h
      have fx : ∀ p ∈ S, Fx 6 10000 p.1 ∧ Fx 6 10000 p.2 := fun p h => by
        obtain ⟨gs, pm, gl, rfl⟩ := (hS.mem p).mp h
        have hz : ∀ z ∈ pre.zip gs, Zfx z := fun z hz => by
          obtain ⟨h1, h2⟩ := List.of_mem_zip hz
          have P := hs.all _ (sub _ h1)
          exact ⟨⟨P.le, pm _ h2⟩, P.f1, P.f2⟩
        have zl : (pre.zip gs).length ≤ 12 := by rw [List.length_zip]; omega
        exact ⟨(lowS_fx _ hz).mono (by omega), (highS_fx _ hz).mono (by omega)⟩
      have sl : S.length ≤ 4096 := Nat.le_trans hS.len (Nat.pow_le_pow_right (by decide) (by omega) : 2 ^ pre.length ≤ 2 ^ 12)
      obtain ⟨t5, t6, k, nn⟩ := keys_ok (hs.all x hx) (by decide) (.val (.tuple (ss.map sp))) (.val (.list (S.map sp))) S [] fx s5 s6
      refine ⟨[.val (.tuple (ss.map sp)), .own false (S.map sp), .val (fr x.1), .val (fr x.2), s4, s5, s6], [.val (.tuple (ss.map sp)), .own false ((stepK x S []).map sp), .val (fr x.1), .val (fr x.2), .no, t5, t6], rfl, ?_, pre ++ [x], stepK x S [], .val (fr x.1), .val (fr x.2), .no, t5, t6, by rw [List.append_assoc]; exact hp, rfl, hS.step x, (nn n5 n6).1, (nn n5 n6).2⟩
      have it : itemsAt 1 ([Sl.val (.tuple (ss.map sp)), .own false (S.map sp), .val (fr x.1), .val (fr x.2), s4, s5, s6].set 4 .no) = .ok (S.map sp) [Sl.val (.tuple (ss.map sp)), .val (.list (S.map sp)), .val (fr x.1), .val (fr x.2), .no, s5, s6] := rfl
      have sk : sKeys 4 1 1 (pTup (pCons (pNm 5) (pCons (pNm 6) (pNil)))) (e1__law_some_signs 0) (e2__law_some_signs 0) [.val (.tuple (ss.map sp)), .own false (S.map sp), .val (fr x.1), .val (fr x.2), s4, s5, s6] = .ok .nx [.val (.tuple (ss.map sp)), .own false ((stepK x S []).map sp), .val (fr x.1), .val (fr x.2), .no, t5, t6] := by
        unfold sKeys
        rw [it]
        dsimp only
        rw [if_pos ⟨by rw [List.length_map]; omega, (by show 4 < 7; decide)⟩]
        have k : keysL (pTup (pCons (pNm 5) (pCons (pNm 6) (pNil)))) (e1__law_some_signs 0) (e2__law_some_signs 0) (S.map sp) [] [.val (.tuple (ss.map sp)), .val (.list (S.map sp)), .val (fr x.1), .val (fr x.2), .no, s5, s6] = _ := k
        rw [k]
        rfl
      unfold b1__law_some_signs sSeq
      rw [sk]
      rfl) ss [.val (.tuple (ss.map sp)), .own false [sp (0, 0)], .no, .no, .no, .no, .no] ⟨[], [(0, 0)], .no, .no, .no, .no, .no, rfl, rfl, ⟨by decide, fun p => by
        rw [List.mem_singleton]
        constructor
        · rintro rfl
          exact ⟨[], fun g hg => (List.not_mem_nil hg).elim, rfl, rfl⟩
        · rintro ⟨gs, -, -, rfl⟩
          rfl⟩, .inl rfl, .inl rfl⟩
  rw [List.append_nil] at hp
  subst hp
  have z0 : sp (0, 0) = .tuple [.tuple [.int 0, .int 1], .tuple [.int 0, .int 1]] := rfl
  rw [z0] at lp
  have lc : ∀ s0 s1 : Sl, lcL (pTup (pCons (pNm 5) (pCons (pNm 6) (pNil)))) (t1__law_some_signs 0) (vC (.int 1)) [5, 6] (S.map sp) [s0, s1, s2, s3, s4, .no, .no] = .ok ((S.filter fun p => decide (p.1 ≤ 0) && decide (0 ≤ p.2)).map fun _ => .int 1) [s0, s1, s2, s3, s4, .no, .no] := fun s0 s1 =>
    lcL_keep sp (fun p => decide (p.1 ≤ 0) && decide (0 ≤ p.2)) (fun _ => .int 1) S fun p hp => by
      refine ⟨_, _, rfl, rfl, ?_, fun _ => by simp⟩
      have i1 : dIx (fr p.1) (.int 0) = some (.val (.int p.1.num)) := rfl
      have i2 : dIx (fr p.2) (.int 0) = some (.val (.int p.2.num)) := rfl
      have e1 : decide (p.1 ≤ 0) = decide (p.1.num ≤ 0) := decide_eq_decide.mpr num_nonpos.symm
      have e2 : decide (0 ≤ p.2) = decide (0 ≤ p.2.num) := decide_eq_decide.mpr Rat.num_nonneg.symm
      show t1__law_some_signs 0 [s0, s1, s2, s3, s4, .val (fr p.1), .val (fr p.2)] = .ok (decide (p.1 ≤ 0) && decide (0 ≤ p.2)) [s0, s1, s2, s3, s4, .val (fr p.1), .val (fr p.2)]
      rw [e1, e2]
      generalize fr p.1 = A at *
      generalize fr p.2 = B at *
      generalize p.1.num = a at *
      generalize p.2.num = b at *
      unfold t1__law_some_signs
      by_cases h : a ≤ 0
      · simp [i1, i2, h]
      · simp [i1, i2, h]
  have eq := ne_nil_any ((S.filter fun p => decide (p.1 ≤ 0) && decide (0 ≤ p.2)).map fun _ => PyData.int 1)
  have sl : (S.map sp).length ≤ LIM := by
    rw [List.length_map]
    have a := Nat.le_trans hS.len (Nat.pow_le_pow_right (by decide) hs.len : 2 ^ pre.length ≤ 2 ^ 12)
    unfold LIM
    omega
  refine ⟨!((S.filter fun p => decide (p.1 ≤ 0) && decide (0 ≤ p.2)).map fun _ => PyData.int 1).isEmpty, ?_, ?_⟩
  · generalize ((S.filter fun p => decide (p.1 ≤ 0) && decide (0 ≤ p.2)).map fun _ => PyData.int 1) = FS at *
    generalize S.map sp = SD at *
    generalize pre.map sp = PD at *
    have l2 : 2 ≤ LIM := by decide
    have l1 : 1 ≤ LIM := by decide
    unfold m__law_some_signs runM g__law_some_signs
    rcases n5 with rfl | ⟨d5, rfl⟩ <;> rcases n6 with rfl | ⟨d6, rfl⟩ <;> simp [startE, seqOf, l1, l2, lp, noOwn, wipeE, lc, backE, sl, eq]
  · rw [Bool.not_eq_true', ← Bool.not_eq_true, List.isEmpty_iff, List.map_eq_nil_iff, List.filter_eq_nil_iff]
    constructor
    · intro h
      obtain ⟨p, hp, h1⟩ : ∃ p, p ∈ S ∧ (decide (p.1 ≤ 0) && decide (0 ≤ p.2)) = true := Classical.byContradiction fun c => h fun p hp h2 => c ⟨p, hp, h2⟩
      obtain ⟨gs, pm, gl, rfl⟩ := (hS.mem p).mp hp
      rw [Bool.and_eq_true, decide_eq_true_eq,
                                                                                                                    decide_eq_true_eq] at h1
      exact ⟨gs, pm, gl, h1⟩
    · rintro ⟨gs, pm, gl, h1, h2⟩ h
      refine h _ ((hS.mem _).mpr ⟨gs, pm, gl, rfl⟩) ?_
      rw [Bool.and_eq_true,
                                                                                                                    decide_eq_true_eq, decide_eq_true_eq]
      exact ⟨h1, h2⟩
end Sg

namespace Sg
open PySem Mv Sh Fr
/-! ### SIGNINGS among any values -/
def isPm : D → Bool
  | .int i => decide (i = 1) || decide (i = -1)
  | _ => false
def amtB (x : D × (Rat × Rat)) : Bool := frB x.1 && (decide (x.2.1 ≤ toQ x.1) && decide (toQ x.1 ≤ x.2.2))
def sgB (ss : List (Rat × Rat)) (as gs : List D) : Bool := decide (as.length = ss.length) && (decide (gs.length = ss.length) && (gs.all isPm && ((as.zip ss).all amtB && decide (sgn (as.map toQ) (gs.map toI) = 0))))
def sigB (ss : List (Rat × Rat)) : D → Bool
  | .tuple [.tuple as, .tuple gs] => sgB ss as gs
  | _ => false
structure Gd (d : D) : Prop where
  tl : ∀ ds, d = .tuple ds → ds.length ≤ 1000
  pl : ∀ as gs, d = .tuple [.tuple as, .tuple gs] → as.length ≤ 1000 ∧ gs.length ≤ 1000
  am : ∀ as gs, d = .tuple [.tuple as, .tuple gs] → ∀ a ∈ as, Sml a ∧ (frB a = true → Bn 60 (toQ a))
theorem shaped_pm : SeqAt.shaped (.tuple [.int 1, .int (-1)]) = true := by simp [SeqAt.shaped, PyData.canLay0, PyData.canLayAll0, PyData.depth, PyData.depthAll]
theorem pm_int (x : Int) : isPm (.int x) = ((1 : Int) == x || (-1 : Int) == x) := by
  show (decide _ || decide _) = _
  rw [Bool.eq_iff_iff]
  simp
  constructor
  · rintro (h | h) <;> simp [h]
  · rintro (h | h) <;> simp [← h]
theorem in_pm (x : Int) : dIn (.int x) (.tuple [.int 1, .int (-1)]) = some (.val (.bool (isPm (.int x)))) := by
  unfold dIn
  rw [if_pos ⟨shaped_int x, shaped_pm⟩, pm_int]
  simp [anyEq, PyData.eqv]
theorem notIn_pm (x : Int) : dNotIn (.int x) (.tuple [.int 1, .int (-1)]) = some (.val (.bool (!isPm (.int x)))) := by
  unfold dNotIn
  rw [if_pos ⟨shaped_int x, shaped_pm⟩, pm_int]
  simp [anyEq, PyData.eqv]
theorem pm_no {d : D} (h : isInt d = false) : isPm d = false := by
  cases d with
  | int i => cases h
  | _ => rfl
theorem pm_of {gs : List D} (h : gs.all isPm = true) : gs = (gs.map toI).map .int ∧ Pm (gs.map toI) := by
  have key : ∀ g ∈ gs, g = .int (toI g) ∧ (toI g = 1 ∨ toI g = -1) := fun g hg => by
    have := List.all_eq_true.mp h g hg
    cases g with
    | int i =>
      refine ⟨rfl, ?_⟩
      show i = 1 ∨ i = -1
      unfold isPm at this
      rw [Bool.or_eq_true, decide_eq_true_eq, decide_eq_true_eq] at this
      exact this
    | _ => cases this
  refine ⟨?_, fun g hg => ?_⟩
  · rw [List.map_map]
    conv => lhs; rw [← List.map_id gs]
    exact List.map_congr_left fun g hg => (key g hg).1
  · obtain ⟨d, hd, rfl⟩ := List.mem_map.mp hg
    exact (key d hd).2
theorem zip_ds : ∀ (as : List D) (ss : List (Rat × Rat)), zipD as (ss.map sp) = (as.zip ss).map fun x => .tuple [x.1, sp x.2]
  | [], _ => by simp [zipD]
  | _ :: _, [] => by simp [zipD]
  | a :: as, p :: ss => by
    have ih := zip_ds as ss
    unfold zipD at ih ⊢
    simp only [List.map_cons, List.zipWith_cons_cons, List.zip_cons_cons]
    rw [ih]
theorem fr_of {a : D} (h : frB a = true) : a = fr (toQ a) := by
  obtain ⟨q, rfl⟩ := frB_fr h
  rw [toQ_fr]
theorem am_of {as : List D} {ss : List (Rat × Rat)} (hl : as.length = ss.length) (h : (as.zip ss).all amtB = true) : as = (as.map toQ).map fr ∧ ∀ a ∈ as, frB a = true := by
  have key : ∀ a ∈ as, frB a = true := fun a ha => by
    obtain ⟨k, hk, rfl⟩ := List.getElem_of_mem ha
    have hz : k < (as.zip ss).length := by rw [List.length_zip]; omega
    have := List.all_eq_true.mp h _ (List.getElem_mem hz)
    rw [List.getElem_zip] at this
    unfold amtB at this
    rw [Bool.and_eq_true] at this
    exact this.1
  refine ⟨?_, key⟩
  rw [List.map_map]
  conv => lhs; rw [← List.map_id as]
  exact List.map_congr_left fun a ha => fr_of (key a ha)
section
variable {ss : List (Rat × Rat)}
theorem is_signing_pair (S : Spz ss) {as gs : List D} (G : Gd (.tuple [.tuple as, .tuple gs])) : m_is_signing [.tuple (ss.map sp), .tuple [.tuple as, .tuple gs]] = some (.ret (.val (.bool (sgB ss as gs)))) := by
  obtain ⟨la, lg⟩ := G.pl as gs rfl
  have am := G.am as gs rfl
  have lc1 : ∀ s0 s1 s2 s3 s4 s5 s6 s7 : Sl, lcL (pNm 8) bYes (e1_is_signing 0) [8] [.tuple as, .tuple gs] [s0, s1, s2, s3, s4, s5, s6, s7, .no] = .ok [.bool true, .bool true] [s0, s1, s2, s3, s4, s5, s6, s7, .no] := fun s0 s1 s2 s3 s4 s5 s6 s7 => by
    have := lcL_each (pat := pNm 8) (el := e1_is_signing 0) (vs := [8]) (e := [s0, s1, s2, s3, s4, s5, s6, s7, .no]) PyData.tuple (fun _ => .bool true) [as, gs] fun x hx => ⟨_, _, rfl, rfl, by
      unfold e1_is_signing
      simp⟩
    exact this
  have al1 : dAll [.list [.bool true, .bool true]] = some (.val (.bool true)) := rfl
  have lc2 : ∀ s0 s1 s2 s4 s5 s6 s8 : Sl, lcL (pNm 7) bYes (e2_is_signing 0) [7] (gs.map id) [s0, s1, s2, .val (.tuple gs), s4, s5, s6, .no, s8] = .ok (gs.map fun g => .bool (isPm g)) [s0, s1, s2, .val (.tuple gs), s4, s5, s6, .no, s8] := fun s0 s1 s2 s4 s5 s6 s8 =>
    lcL_each (α := D) id _ gs fun g hg => ⟨_, _, rfl, rfl, by
      have i1 := m_is_integer_any g
      cases hi : isInt g with
      | true =>
        obtain ⟨x, rfl⟩ := isInt_of hi
        have ip := in_pm x
        rw [hi] at i1
        have l2 : 2 ≤ LIM := by decide
        show vD (e2_is_signing 0) [s0, s1, s2, .val (.tuple gs), s4, s5, s6, .val (.int x), s8] = .ok (.bool (isPm (.int x))) _
        generalize isPm (.int x) = B at *
        unfold e2_is_signing
        simp [i1, ip, l2]
      | false =>
        rw [hi] at i1
        show vD (e2_is_signing 0) [s0, s1, s2, .val (.tuple gs), s4, s5, s6, .val g, s8] = .ok (.bool (isPm g)) _
        rw [pm_no hi]
        unfold e2_is_signing
        simp [i1]⟩
  have al2 := all_of isPm gs
  obtain ⟨e', lp, hi⟩ := for_test (pat := pTup (pCons (pNm 4) (pCons (pTup (pCons (pNm 5) (pCons (pNm 6) (pNil)))) (pNil)))) (b := b1_is_signing 0) (fun x : D × (Rat × Rat) => PyData.tuple [x.1, sp x.2]) amtB (.val (.bool false)) (fun e => ∃ s4 s5 s6 : Sl, e = [.val (.tuple (ss.map sp)), .val (.tuple [.tuple as, .tuple gs]), .val (.tuple as), .val (.tuple gs), s4, s5, s6, .no, .no]) (as.zip ss)
    [.val (.tuple (ss.map sp)), .val (.tuple [.tuple as, .tuple gs]), .val (.tuple as), .val (.tuple gs), .no, .no, .no, .no, .no] (fun x hx e ⟨s4, s5, s6, he⟩ => by
      subst he
      obtain ⟨h1, h2⟩ := List.of_mem_zip hx
      obtain ⟨sm, bn⟩ := am _ h1
      have P := S.all _ h2
      have f := m_is_fraction_any sm
      refine ⟨[.val (.tuple (ss.map sp)), .val (.tuple [.tuple as, .tuple gs]), .val (.tuple as), .val (.tuple gs), .val x.1, .val (fr x.2.1), .val (fr x.2.2), .no, .no], [.val (.tuple (ss.map sp)), .val (.tuple [.tuple as, .tuple gs]), .val (.tuple as), .val (.tuple gs), .val x.1, .val (fr x.2.1), .val (fr x.2.2), .no, .no], rfl, fun hp => ⟨?_, _, _, _, rfl⟩, fun hp => ?_⟩
      · unfold amtB at hp
        rw [Bool.and_eq_true, Bool.and_eq_true, decide_eq_true_eq, decide_eq_true_eq] at hp
        have bq := (bn hp.1).bq (by decide)
        have c1 := m_compared_eq bq (bq_fx (by decide) P.f1)
        have c2 := m_compared_eq bq (bq_fx (by decide) P.f2)
        have n1 : ¬ cmpI (toQ x.1) x.2.1 < 0 := fun c => absurd hp.2.1 (Rat.not_le.mpr ((cmpI_lt _ _).mp c))
        have n2 : ¬ 0 < cmpI (toQ x.1) x.2.2 := fun c => absurd hp.2.2 (Rat.not_le.mpr ((cmpI_gt _ _).mp c))
        rw [← fr_of hp.1] at c1 c2
        rw [hp.1] at f
        generalize cmpI (toQ x.1) x.2.1 = C1 at *
        generalize cmpI (toQ x.1) x.2.2 = C2 at *
        generalize x.1 = A at *
        generalize fr x.2.1 = F1 at *
        generalize fr x.2.2 = F2 at *
        generalize ss.map sp = SD at *
        unfold b1_is_signing
        simp [f, c1, c2, n1, n2]
      · cases hf : frB x.1 with
        | false =>
          rw [hf] at f
          generalize x.1 = A at *
          generalize ss.map sp = SD at *
          unfold b1_is_signing
          simp [f]
        | true =>
          have bq := (bn hf).bq (by decide)
          have c1 := m_compared_eq bq (bq_fx (by decide) P.f1)
          have c2 := m_compared_eq bq (bq_fx (by decide) P.f2)
          have l1 := cmpI_lt (toQ x.1) x.2.1
          have l2 := cmpI_gt (toQ x.1) x.2.2
          unfold amtB at hp
          rw [hf, Bool.true_and, Bool.and_eq_false_iff, decide_eq_false_iff_not, decide_eq_false_iff_not] at hp
          rw [← fr_of hf] at c1 c2
          rw [hf] at f
          by_cases n1 : toQ x.1 < x.2.1
          · have k1 := l1.mpr n1
            generalize cmpI (toQ x.1) x.2.1 = C1 at *
            generalize cmpI (toQ x.1) x.2.2 = C2 at *
            generalize x.1 = A at *
            generalize fr x.2.1 = F1 at *
            generalize fr x.2.2 = F2 at *
            generalize ss.map sp = SD at *
            unfold b1_is_signing
            simp [f, c1, k1]
          · have n2 : x.2.2 < toQ x.1 := by
              rcases hp with hp | hp
              · exact absurd (Rat.not_lt.mp n1) hp
              · exact Rat.not_le.mp hp
            have k1 : ¬ cmpI (toQ x.1) x.2.1 < 0 := fun c => n1 (l1.mp c)
            have k2 := l2.mpr n2
            generalize cmpI (toQ x.1) x.2.1 = C1 at *
            generalize cmpI (toQ x.1) x.2.2 = C2 at *
            generalize x.1 = A at *
            generalize fr x.2.1 = F1 at *
            generalize fr x.2.2 = F2 at *
            generalize ss.map sp = SD at *
            unfold b1_is_signing
            simp [f, c1, c2, k1, k2]) ⟨.no, .no, .no, rfl⟩
  rw [← zip_ds] at lp
  have zl : (zipD as (ss.map sp)).length ≤ LIM := by rw [zip_ds, List.length_map, List.length_zip]; unfold LIM; omega
  have l2 : 2 ≤ LIM := by decide
  have gl : gs.length ≤ LIM := by unfold LIM; omega
  have sl3 : ss.length ≤ LIM := by have := S.len; unfold LIM; omega
  have lg1 : (gs.map fun g => PyData.bool (isPm g)).length = gs.length := List.length_map ..
  have sd : (ss.map sp).length = ss.length := List.length_map ..
  rw [List.map_id] at lc2
  unfold sgB
  by_cases h1 : as.length = ss.length
  · by_cases h2 : gs.length = ss.length
    · cases h3 : gs.all isPm with
      | false =>
        rw [h3] at al2
        rw [decide_eq_true h1, decide_eq_true h2, Bool.true_and, Bool.true_and, Bool.false_and]
        generalize (gs.map fun g => PyData.bool (isPm g)) = GB at *
        generalize ss.map sp = SD at *
        unfold m_is_signing runM g_is_signing s1_is_signing s2_is_signing s3_is_signing
        simp [startE, seqOf, noOwn, wipeE, lc1, backE, l2, al1, h1, h2, sd, lc2, gl, sl3, al2]
      | true =>
        rw [h3] at al2
        cases h4 : (as.zip ss).all amtB with
        | false =>
          rw [h4, if_neg (fun z => Bool.false_ne_true z)] at lp
          rw [decide_eq_true h1, decide_eq_true h2, Bool.true_and, Bool.true_and, Bool.true_and, Bool.false_and]
          generalize (gs.map fun g => PyData.bool (isPm g)) = GB at *
          generalize ss.map sp = SD at *
          unfold m_is_signing runM g_is_signing s1_is_signing s2_is_signing s3_is_signing s4_is_signing
          simp [startE, seqOf, noOwn, wipeE, lc1, backE, l2, al1, h1, h2, sd, lc2, gl, sl3, al2, zl, lp]
          exact outOf_rt _ _
        | true =>
          rw [h4, if_pos rfl] at lp
          obtain ⟨s4, s5, s6, rfl⟩ := hi h4
          obtain ⟨eg, pm⟩ := pm_of h3
          obtain ⟨ea, fa⟩ := am_of h1 h4
          have sl := S.len
          have su := signed_sum_ok (B := 60) (as := as.map toQ) (gs := gs.map toI) (by decide) (by rw [List.length_map]; omega) (fun q hq => by
            obtain ⟨a, ha, rfl⟩ := List.mem_map.mp hq
            exact (am a ha).2 (fa a ha)) pm (.inr rfl)
          rw [← ea] at su
          have sg : sgD (gs.map toI) = .tuple gs := by unfold sgD; rw [← eg]
          rw [sg] at su
          have eq := eq_fr (sgn (as.map toQ) (gs.map toI)) 0
          have z0 : fr 0 = .tuple [.int 0, .int 1] := rfl
          rw [z0] at eq
          rw [decide_eq_true h1, decide_eq_true h2, Bool.true_and, Bool.true_and, Bool.true_and, Bool.true_and]
          generalize decide (sgn (as.map toQ) (gs.map toI) = 0) = DD at *
          generalize fr (sgn (as.map toQ) (gs.map toI)) = SQ at *
          generalize (gs.map fun g => PyData.bool (isPm g)) = GB at *
          generalize ss.map sp = SD at *
          unfold m_is_signing runM g_is_signing s1_is_signing s2_is_signing s3_is_signing s4_is_signing s5_is_signing
          simp [startE, seqOf, noOwn, wipeE, lc1, backE, l2, al1, h1, h2, sd, lc2, gl, sl3, al2, zl, lp, su, eq]
    · have h2' : ¬ ((gs.length : Int) = (ss.length : Int)) := by omega
      rw [decide_eq_true h1, decide_eq_false h2, Bool.true_and, Bool.false_and]
      generalize ss.map sp = SD at *
      unfold m_is_signing runM g_is_signing s1_is_signing s2_is_signing
      simp [startE, seqOf, noOwn, wipeE, lc1, backE, l2, al1, h1, h2, h2', sd]
  · have h1' : ¬ ((as.length : Int) = (ss.length : Int)) := by omega
    rw [decide_eq_false h1, Bool.false_and]
    generalize ss.map sp = SD at *
    unfold m_is_signing runM g_is_signing s1_is_signing s2_is_signing
    simp [startE, seqOf, noOwn, wipeE, lc1, backE, l2, al1, h1, h1', sd]
end
end Sg

namespace Sg
open PySem Mv Sh Fr
section
variable {ss : List (Rat × Rat)}
theorem at2_0 (a b : D) : L2.atI [a, b] 0 = some a := rfl
theorem at2_1 (a b : D) : L2.atI [a, b] 1 = some b := rfl
theorem sigB_no {d : D} (h : ∀ as gs, d ≠ .tuple [.tuple as, .tuple gs]) : sigB ss d = false := by
  unfold sigB
  split
  · exact absurd rfl (h _ _)
  · rfl
theorem is_signing_any (S : Spz ss) {d : D} (G : Gd d) : m_is_signing [.tuple (ss.map sp), d] = some (.ret (.val (.bool (sigB ss d)))) := by
  by_cases hp : ∃ as gs, d = .tuple [.tuple as, .tuple gs]
  · obtain ⟨as, gs, rfl⟩ := hp
    exact is_signing_pair S G
  · have no := sigB_no (ss := ss) (d := d) fun as gs e => hp ⟨as, gs, e⟩
    rw [no]
    cases ht : isTup d with
    | false =>
      generalize ss.map sp = SD at *
      unfold m_is_signing runM g_is_signing s1_is_signing
      simp [startE, ht]
    | true =>
      obtain ⟨ds, rfl⟩ : ∃ ds, d = .tuple ds := by
        cases d <;> first | exact ⟨_, rfl⟩ | cases ht
      by_cases hl : ds.length = 2
      · match ds, hl with
        | [a, b], _ =>
          have lc : ∀ s0 s1 s2 s3 s4 s5 s6 s7 : Sl, lcL (pNm 8) bYes (e1_is_signing 0) [8] [a, b] [s0, s1, s2, s3, s4, s5, s6, s7, .no] = .ok ([a, b].map fun x => .bool (isTup x)) [s0, s1, s2, s3, s4, s5, s6, s7, .no] := fun s0 s1 s2 s3 s4 s5 s6 s7 => by
            have := lcL_each (pat := pNm 8) (el := e1_is_signing 0) (vs := [8]) (e := [s0, s1, s2, s3, s4, s5, s6, s7, .no]) id (fun x => .bool (isTup x)) [a, b] fun x hx => ⟨_, _, rfl, rfl, by
              unfold e1_is_signing
              simp⟩
            rw [List.map_id] at this
            exact this
          have al := all_of isTup [a, b]
          have nt : [a, b].all isTup = false := by
            rw [← Bool.not_eq_true]
            intro c
            rw [List.all_cons, List.all_cons, List.all_nil, Bool.and_true, Bool.and_eq_true] at c
            refine hp ?_
            cases a <;> first | cases c.1 | skip
            cases b <;> first | cases c.2 | skip
            exact ⟨_, _, rfl⟩
          rw [nt] at al
          have l2 : 2 ≤ LIM := by decide
          simp only [List.map_cons, List.map_nil] at al lc
          generalize PyData.bool (isTup a) = A1 at *
          generalize PyData.bool (isTup b) = B1 at *
          generalize ss.map sp = SD at *
          unfold m_is_signing runM g_is_signing s1_is_signing
          simp [startE, seqOf, noOwn, wipeE, lc, backE, l2, al]
      · have hl' : ¬ ((ds.length : Int) = 2) := by omega
        generalize ss.map sp = SD at *
        unfold m_is_signing runM g_is_signing s1_is_signing
        simp [startE, hl, hl']
/-! ### the law's own -/
theorem zip_dg : ∀ (as gs : List D), zipD as gs = (as.zip gs).map fun x => .tuple [x.1, x.2]
  | [], _ => by simp [zipD]
  | _ :: _, [] => by simp [zipD]
  | a :: as, p :: ss => by
    have ih := zip_dg as ss
    unfold zipD at ih ⊢
    simp only [List.zipWith_cons_cons, List.zip_cons_cons, List.map_cons]
    rw [ih]
theorem law_signing_pair (S : Spz ss) {as gs : List D} (G : Gd (.tuple [.tuple as, .tuple gs])) : m__law_is_signing [.tuple (ss.map sp), .tuple [.tuple as, .tuple gs]] = some (.ret (.val (.bool (sgB ss as gs)))) := by
  obtain ⟨la, lg⟩ := G.pl as gs rfl
  have am := G.am as gs rfl
  have sl := S.len
  have lc2 : ∀ s0 s1 s2 : Sl, lcL (pNm 4) (t1__law_is_signing 0) (vC (.int 1)) [4] (gs.map id) [s0, s1, s2, .val (.tuple gs), .no, .no, .no] = .ok ((gs.filter fun g => !isPm g).map fun _ => .int 1) [s0, s1, s2, .val (.tuple gs), .no, .no, .no] := fun s0 s1 s2 =>
    lcL_keep (α := D) id (fun g => !isPm g) (fun _ => .int 1) gs fun g hg => ⟨_, _, rfl, rfl, by
      have i1 := m_integer_any g
      have l2 : 2 ≤ LIM := by decide
      cases hi : isInt g with
      | true =>
        obtain ⟨x, rfl⟩ := isInt_of hi
        have ip := notIn_pm x
        rw [hi] at i1
        show t1__law_is_signing 0 [s0, s1, s2, .val (.tuple gs), .val (.int x), .no, .no] = .ok (!isPm (.int x)) _
        generalize isPm (.int x) = B at *
        unfold t1__law_is_signing
        simp [i1, ip, l2]
      | false =>
        rw [hi] at i1
        show t1__law_is_signing 0 [s0, s1, s2, .val (.tuple gs), .val g, .no, .no] = .ok (!isPm g) _
        rw [pm_no hi]
        unfold t1__law_is_signing
        simp [i1], fun _ => by simp⟩
  rw [List.map_id] at lc2
  have eq2 := ne_nil_any ((gs.filter fun g => !isPm g).map fun _ => PyData.int 1)
  have e2 : ((gs.filter fun g => !isPm g).map fun _ => PyData.int 1).isEmpty = gs.all isPm := by
    rw [Bool.eq_iff_iff, List.isEmpty_iff, List.map_eq_nil_iff, List.filter_eq_nil_iff, List.all_eq_true]
    simp
  rw [e2] at eq2
  have lc3 : ∀ s0 s1 s2 s3 s4 : Sl, lcL (pTup (pCons (pNm 5) (pCons (pNm 6) (pNil)))) (t2__law_is_signing 0) (vC (.int 1)) [5, 6] (zipD as (ss.map sp)) [s0, s1, s2, s3, s4, .no, .no] = .ok (((as.zip ss).filter fun x => !amtB x).map fun _ => .int 1) [s0, s1, s2, s3, s4, .no, .no] := fun s0 s1 s2 s3 s4 => by
    rw [zip_ds]
    refine lcL_keep (α := D × (Rat × Rat)) _ (fun x => !amtB x) (fun _ => .int 1) (as.zip ss) fun x hx => ⟨_, _, rfl, rfl, ?_, fun _ => by simp⟩
    obtain ⟨h1, h2⟩ := List.of_mem_zip hx
    obtain ⟨sm, bn⟩ := am _ h1
    have P := S.all _ h2
    have f := m_fraction_any sm
    show t2__law_is_signing 0 [s0, s1, s2, s3, s4, .val x.1, .val (sp x.2)] = .ok (!amtB x) [s0, s1, s2, s3, s4, .val x.1, .val (sp x.2)]
    unfold amtB
    cases hf : frB x.1 with
    | false =>
      rw [hf] at f
      generalize x.1 = A at *
      generalize sp x.2 = SX at *
      unfold t2__law_is_signing
      simp [f]
    | true =>
      have bq := (bn hf).bq (by decide)
      have w := m_within_eq (p := x.2) (bq_fx (by decide) P.f1) (bq_fx (by decide) P.f2) bq
      rw [← fr_of hf] at w
      rw [hf] at f
      have ew : wi (x.2, toQ x.1) = (decide (x.2.1 ≤ toQ x.1) && decide (toQ x.1 ≤ x.2.2)) := rfl
      rw [← ew, Bool.true_and]
      generalize wi (x.2, toQ x.1) = WB at *
      generalize x.1 = A at *
      generalize sp x.2 = SX at *
      unfold t2__law_is_signing
      simp [f, w]
  have eq3 := ne_nil_any (((as.zip ss).filter fun x => !amtB x).map fun _ => PyData.int 1)
  have e3 : (((as.zip ss).filter fun x => !amtB x).map fun _ => PyData.int 1).isEmpty = (as.zip ss).all amtB := by
    rw [Bool.eq_iff_iff, List.isEmpty_iff, List.map_eq_nil_iff, List.filter_eq_nil_iff, List.all_eq_true]
    simp
  rw [e3] at eq3
  have zl : (zipD as (ss.map sp)).length ≤ LIM := by rw [zip_ds, List.length_map, List.length_zip]; unfold LIM; omega
  have zl2 : (zipD as gs).length ≤ LIM := by rw [zip_dg, List.length_map, List.length_zip]; unfold LIM; omega
  have l2 : 2 ≤ LIM := by decide
  have gl : gs.length ≤ LIM := by unfold LIM; omega
  have sl3 : ss.length ≤ LIM := by unfold LIM; omega
  have sd : (ss.map sp).length = ss.length := List.length_map ..
  unfold sgB
  by_cases h1 : as.length = ss.length
  · by_cases h2 : gs.length = ss.length
    · cases h3 : gs.all isPm with
      | false =>
        rw [h3] at eq2
        rw [decide_eq_true h1, decide_eq_true h2, Bool.true_and, Bool.true_and, Bool.false_and]
        generalize ((gs.filter fun g => !isPm g).map fun _ => PyData.int 1) = FG at *
        generalize ss.map sp = SD at *
        unfold m__law_is_signing runM g__law_is_signing s1__law_is_signing s2__law_is_signing s3__law_is_signing
        simp [startE, seqOf, noOwn, wipeE, backE, l2, at2_0, at2_1, h1, h2, sd, lc2, gl, sl3, eq2]
      | true =>
        rw [h3] at eq2
        cases h4 : (as.zip ss).all amtB with
        | false =>
          rw [h4] at eq3
          rw [decide_eq_true h1, decide_eq_true h2, Bool.true_and, Bool.true_and, Bool.true_and, Bool.false_and]
          generalize ((gs.filter fun g => !isPm g).map fun _ => PyData.int 1) = FG at *
          generalize (((as.zip ss).filter fun x => !amtB x).map fun _ => PyData.int 1) = FA at *
          generalize ss.map sp = SD at *
          unfold m__law_is_signing runM g__law_is_signing s1__law_is_signing s2__law_is_signing s3__law_is_signing s4__law_is_signing
          simp [startE, seqOf, noOwn, wipeE, backE, l2, at2_0, at2_1, h1, h2, sd, lc2, gl, sl3, eq2, lc3, zl, eq3]
        | true =>
          rw [h4] at eq3
          obtain ⟨eg, pm⟩ := pm_of h3
          obtain ⟨ea, fa⟩ := am_of h1 h4
          have bna : ∀ q ∈ as.map toQ, Bn 60 q := fun q hq => by
            obtain ⟨a, ha, rfl⟩ := List.mem_map.mp hq
            exact (am a ha).2 (fa a ha)
          have lc5 : ∀ s0 s1 s2 s3 s6 : Sl, lcL (pTup (pCons (pNm 5) (pCons (pNm 4) (pNil)))) bYes (e1__law_is_signing 0) [5, 4] (zipD as gs) [s0, s1, s2, s3, .no, .no, s6] = .ok ((((as.map toQ).zip (gs.map toI)).map fun z => z.1 * (z.2 : Rat)).map fr) [s0, s1, s2, s3, .no, .no, s6] := fun s0 s1 s2 s3 s6 => by
            have ez : zipD as gs = ((as.map toQ).zip (gs.map toI)).map fun z => .tuple [fr z.1, .int z.2] := by
              conv => lhs; rw [ea, eg]
              exact zip_fg _ _
            rw [ez, List.map_map (l := (as.map toQ).zip (gs.map toI))]
            refine lcL_each (α := Rat × Int) _ _ _ fun z hz => ⟨_, _, rfl, rfl, ?_⟩
            obtain ⟨g1, g2⟩ := List.of_mem_zip hz
            have hs := pm _ g2
            have bs : Bq ((z.2 : Int) : Rat) := by
              refine ⟨?_, ?_⟩
              · show z.2.natAbs < _
                rcases hs with e | e <;> rw [e] <;> exact up (n := 1) (k := 1) (by decide) (by decide)
              · show (1 : Nat) < _
                exact up (n := 1) (k := 1) (by decide) (by decide)
            have t := m_by_eq ((bna _ g1).bq (by decide)) bs
            have fz : fr ((z.2 : Int) : Rat) = .tuple [.int z.2, .int 1] := rfl
            rw [fz] at t
            show vD (e1__law_is_signing 0) [s0, s1, s2, s3, .val (.int z.2), .val (fr z.1), s6] = .ok (fr (z.1 * (z.2 : Rat))) _
            generalize fr (z.1 * (z.2 : Rat)) = R at *
            generalize fr z.1 = A at *
            unfold e1__law_is_signing
            simp [t, l2]
          have ql : (((as.map toQ).zip (gs.map toI)).map fun z => z.1 * (z.2 : Rat)).length ≤ 12 := by rw [List.length_map, List.length_zip, List.length_map]; omega
          have bl : 60 * (((as.map toQ).zip (gs.map toI)).map fun z => z.1 * (z.2 : Rat)).length ≤ 60 * 12 := Nat.mul_le_mul_left _ ql
          have pl := m_plus_b (B := 60) (qs := ((as.map toQ).zip (gs.map toI)).map fun z => z.1 * (z.2 : Rat)) (d0 := .list ((((as.map toQ).zip (gs.map toI)).map fun z => z.1 * (z.2 : Rat)).map fr)) (.inl rfl) (fun q hq => by
            obtain ⟨z, hz, rfl⟩ := List.mem_map.mp hq
            obtain ⟨g1, g2⟩ := List.of_mem_zip hz
            exact bn_sign (bna _ g1) (pm _ g2)) (by omega)
          have es : sumQ (((as.map toQ).zip (gs.map toI)).map fun z => z.1 * (z.2 : Rat)) = sgn (as.map toQ) (gs.map toI) := rfl
          rw [es] at pl
          have fz : fr (sgn (as.map toQ) (gs.map toI)) = .tuple [.int (sgn (as.map toQ) (gs.map toI)).num, .int ((sgn (as.map toQ) (gs.map toI)).den : Int)] := rfl
          rw [fz] at pl
          have ed : decide (sgn (as.map toQ) (gs.map toI) = 0) = decide ((sgn (as.map toQ) (gs.map toI)).num = 0) := decide_eq_decide.mpr Rat.num_eq_zero.symm
          rw [decide_eq_true h1, decide_eq_true h2, Bool.true_and, Bool.true_and, Bool.true_and, Bool.true_and, ed]
          generalize (sgn (as.map toQ) (gs.map toI)).num = NU at *
          generalize ((sgn (as.map toQ) (gs.map toI)).den : Int) = DE at *
          generalize (((as.map toQ).zip (gs.map toI)).map fun z => z.1 * (z.2 : Rat)).map fr = QD at *
          generalize ((gs.filter fun g => !isPm g).map fun _ => PyData.int 1) = FG at *
          generalize (((as.zip ss).filter fun x => !amtB x).map fun _ => PyData.int 1) = FA at *
          generalize ss.map sp = SD at *
          unfold m__law_is_signing runM g__law_is_signing s1__law_is_signing s2__law_is_signing s3__law_is_signing s4__law_is_signing s5__law_is_signing
          simp [startE, seqOf, noOwn, wipeE, backE, l2, at2_0, at2_1, h1, h2, sd, lc2, gl, sl3, eq2, lc3, zl, zl2, eq3, lc5, pl]
    · have h2' : ¬ ((gs.length : Int) = (ss.length : Int)) := by omega
      rw [decide_eq_true h1, decide_eq_false h2, Bool.true_and, Bool.false_and]
      generalize ss.map sp = SD at *
      unfold m__law_is_signing runM g__law_is_signing s1__law_is_signing s2__law_is_signing
      simp [startE, at2_0, at2_1, h1, h2, h2', sd]
  · have h1' : ¬ ((as.length : Int) = (ss.length : Int)) := by omega
    rw [decide_eq_false h1, Bool.false_and]
    generalize ss.map sp = SD at *
    unfold m__law_is_signing runM g__law_is_signing s1__law_is_signing s2__law_is_signing
    simp [startE, at2_0, at2_1, h1, h1', sd]
theorem law_signing_any (S : Spz ss) {d : D} (G : Gd d) : m__law_is_signing [.tuple (ss.map sp), d] = some (.ret (.val (.bool (sigB ss d)))) := by
  by_cases hp : ∃ as gs, d = .tuple [.tuple as, .tuple gs]
  · obtain ⟨as, gs, rfl⟩ := hp
    exact law_signing_pair S G
  · have no := sigB_no (ss := ss) (d := d) fun as gs e => hp ⟨as, gs, e⟩
    rw [no]
    cases ht : isTup d with
    | false =>
      generalize ss.map sp = SD at *
      unfold m__law_is_signing runM g__law_is_signing s1__law_is_signing
      simp [startE, ht]
    | true =>
      obtain ⟨ds, rfl⟩ : ∃ ds, d = .tuple ds := by
        cases d <;> first | exact ⟨_, rfl⟩ | cases ht
      by_cases hl : ds.length = 2
      · match ds, hl with
        | [a, b], _ =>
          cases ha : isTup a with
          | false =>
            generalize ss.map sp = SD at *
            unfold m__law_is_signing runM g__law_is_signing s1__law_is_signing
            simp [startE, at2_0, at2_1, ha]
          | true =>
            cases hb : isTup b with
            | false =>
              generalize ss.map sp = SD at *
              unfold m__law_is_signing runM g__law_is_signing s1__law_is_signing
              simp [startE, at2_0, at2_1, ha, hb]
            | true =>
              refine absurd ?_ hp
              cases a <;> first | cases ha | skip
              cases b <;> first | cases hb | skip
              exact ⟨_, _, rfl⟩
      · have hl' : ¬ ((ds.length : Int) = 2) := by omega
        generalize ss.map sp = SD at *
        unfold m__law_is_signing runM g__law_is_signing s1__law_is_signing
        simp [startE, hl, hl']
end
end Sg

namespace Sg
open PySem Mv Sh Fr
/-! ### values near a signing -/
structure It (d : D) : Prop where
  p : Fr.plain d
  w : wide d ≤ 4000
  dp : d.depth ≤ 1
  s : Sml d
  f : frB d = true → Bn 60 (toQ d)
structure Xp (x : D) : Prop where
  p : Fr.plain x
  w : wide x ≤ 100000
  d : x.depth ≤ 2
  t : ∀ as, x = .tuple as → as.length ≤ 1000 ∧ ∀ a ∈ as, Sml a ∧ (frB a = true → Bn 60 (toQ a))
structure Th (d : D) : Prop where
  r : repOk d
  g : Gd d
theorem xp_of {as : List D} (h : ∀ a ∈ as, It a) (hl : as.length ≤ 20) : Xp (.tuple as) ∧ Xp (.list as) := by
  have wd := wides_of fun a ha => (h a ha).w
  have dp := depths_of fun a ha => (h a ha).dp
  have pl := plains_of fun a ha => (h a ha).p
  have : as.length * (4000 + 2) ≤ 20 * (4000 + 2) := Nat.mul_le_mul_right _ hl
  constructor
  · exact ⟨pl, by show wides as + 3 ≤ 100000; omega, by simp only [PyData.depth]; omega, fun as' e => by
      cases e
      exact ⟨by omega, fun a ha => ⟨(h a ha).s, (h a ha).f⟩⟩⟩
  · exact ⟨pl, by show wides as + 3 ≤ 100000; omega, by simp only [PyData.depth]; omega, fun as' e => by cases e⟩
theorem th_tup {xs : List D} (h : ∀ x ∈ xs, Xp x) (hl : xs.length ≤ 3) : Th (.tuple xs) ∧ Th (.list xs) := by
  have t := tell_list (ds := xs) (w := 100000) (h := 2) (fun x hx => ⟨(h x hx).p, (h x hx).w, (h x hx).d⟩) (by omega) (by decide)
  refine ⟨⟨t.2.2, ⟨fun ds e => (by cases e; omega), fun as gs e => ?_, fun as gs e => ?_⟩⟩, ⟨t.1.2, ⟨fun ds e => (by cases e), fun as gs e => (by cases e), fun as gs e => (by cases e)⟩⟩⟩
  · cases e
    exact ⟨((h (.tuple as) (by simp)).t as rfl).1, ((h (.tuple gs) (by simp)).t gs rfl).1⟩
  · cases e
    exact ((h (.tuple as) (by simp)).t as rfl).2
theorem th_none : Th .none := ⟨tell_none.2, ⟨fun ds e => (by cases e), fun as gs e => (by cases e), fun as gs e => (by cases e)⟩⟩
theorem it_fr {q : Rat} (h : Fx 72 100000 q) : It (fr q) := by
  have n72 : (0 : Nat) < 72 ∧ 72 < 2 ^ 1900 := ⟨by decide, up (n := 72) (k := 7) (by decide) (by decide)⟩
  have n72' : (0 : Nat) < 72 ∧ 72 < 2 ^ 4000 := ⟨by decide, up (n := 72) (k := 7) (by decide) (by decide)⟩
  have bq := h.bq n72' (up (n := 100000) (k := 17) (by decide) (by decide))
  refine ⟨plain_fr (h.tq n72 (up (n := 100000) (k := 17) (by decide) (by decide))), by rw [wide_fr]; decide, by rw [depth_fr]; decide, ?_, fun _ => ?_⟩
  · show Sml (.tuple [.int q.num, .int (q.den : Int)])
    simp only [Sml, Smls, and_true]
    exact ⟨bq.1, by rw [Int.natAbs_natCast]; exact bq.2⟩
  · rw [toQ_fr]
    exact Bn.of_fx h (by decide) (by decide) (by decide)
theorem it_int {i : Int} (h : i.natAbs ≤ 10) : It (.int i) := ⟨by
  show i.natAbs.log2 < 1920
  exact log2_lt (by decide) (up (n := i.natAbs) (k := 4) (by omega) (by decide)), by show 1921 ≤ 4000; decide, by simp [PyData.depth], by
  show i.natAbs < _
  exact up (n := i.natAbs) (k := 4) (by omega) (by decide), fun h => by cases h⟩
theorem it_none : It .none := ⟨trivial, by show 4 ≤ 4000; decide, by simp [PyData.depth], trivial, fun h => by cases h⟩
theorem it_bool (b : Bool) : It (.bool b) := ⟨trivial, by show 5 ≤ 4000; decide, by simp [PyData.depth], trivial, fun h => by cases h⟩
theorem it_pair {i j : Int} (hi : i.natAbs ≤ 10) (hj : j.natAbs ≤ 10) : It (.tuple [.int i, .int j]) ∧ It (.list [.int i, .int j]) := by
  have pi := (it_int hi).p
  have pj := (it_int hj).p
  have si := (it_int hi).s
  have sj := (it_int hj).s
  have sm : Smls [.int i, .int j] := ⟨si, sj, trivial⟩
  refine ⟨⟨⟨pi, pj, trivial⟩, by show 3849 ≤ 4000; decide, by simp [PyData.depth, PyData.depthAll], sm, fun h => ?_⟩, ⟨⟨pi, pj, trivial⟩, by show 3849 ≤ 4000; decide, by simp [PyData.depth, PyData.depthAll], sm, fun h => by cases h⟩⟩
  obtain ⟨q, e⟩ := frB_fr h
  rw [e, toQ_fr]
  unfold fr at e
  injection e with e
  injection e with e1 e2
  injection e2 with e2 _
  injection e1 with e1
  injection e2 with e2
  have p60 : (10 : Nat) ≤ 2 ^ 60 := by decide
  refine ⟨?_, ?_⟩
  · rw [← e1]; omega
  · omega
theorem ne_tup_nil {ds : List D} (h : SeqAt.shaped (.tuple ds) = true) : dNe (.tuple ds) (.tuple []) = some (.val (.bool (!ds.isEmpty))) := by
  rw [dNe]
  · rw [if_pos ⟨h, by simp [SeqAt.shaped, PyData.canLay0, PyData.canLayAll0, PyData.depth, PyData.depthAll]⟩]
    cases ds <;> simp [PyData.eqv, PyData.eqvAll]
  · intro _ _ z; cases z
def putL (k : Nat) (x : D) (l : List D) : List D := l.take k ++ [x] ++ l.drop (k + 1)
theorem putL_it {k : Nat} {x : D} {l : List D} (hx : It x) (h : ∀ a ∈ l, It a) : ∀ a ∈ putL k x l, It a := fun a ha => by
  rcases List.mem_append.mp ha with
                                                                                                                ha | ha
  · rcases List.mem_append.mp ha with
                                                                                                                  ha | ha
    · exact h a (List.mem_of_mem_take ha)
    · rw [List.mem_singleton.mp ha]; exact hx
  · exact h a (List.mem_of_mem_drop ha)
theorem putL_len {k : Nat} {x : D} {l : List D} : (putL k x l).length ≤ l.length + 1 := by
  unfold putL
  rw [List.length_append, List.length_append, List.length_take, List.length_drop, List.length_singleton]
  omega
theorem near_ok {ss : List (Rat × Rat)} (S : Spz ss) {ys : List D} (hb : BagOk ys) {qs : List Rat} {gs : List Int} (lq : qs.length = ss.length) (lg : gs.length = ss.length) (fq : ∀ q ∈ qs, Fx 72 60000 q) (pm : Pm gs) :
    ∃ ds zs, m__law_near_v2 ys [.tuple (ss.map sp), .tuple [.tuple (qs.map fr), sgD gs]] = some (.ret (.own false ds), zs) ∧ BagOk zs ∧ ∀ d ∈ ds, Th d := by
  have sl := S.len
  have ia : ∀ a ∈ qs.map fr, It a := fun a ha => by
    obtain ⟨q, hq, rfl⟩ := List.mem_map.mp ha
    exact it_fr ((fq q hq).mono (by decide))
  have ig : ∀ a ∈ gs.map PyData.int, It a := fun a ha => by
    obtain ⟨g, hg, rfl⟩ := List.mem_map.mp ha
    exact it_int (by rcases pm g hg with rfl | rfl <;> decide)
  have ing : ∀ a ∈ (gs.map fun g => -g).map PyData.int, It a := fun a ha => by
    obtain ⟨g', hg', rfl⟩ := List.mem_map.mp ha
    obtain ⟨g, hg, rfl⟩ := List.mem_map.mp hg'
    exact it_int (by rcases pm g hg with rfl | rfl <;> decide)
  have la : (qs.map fr).length = ss.length := by rw [List.length_map, lq]
  have lgd : (gs.map PyData.int).length = ss.length := by rw [List.length_map, lg]
  have lng : ((gs.map fun g => -g).map PyData.int).length = ss.length := by rw [List.length_map, List.length_map, lg]
  have xa := xp_of ia (by omega)
  have xg := xp_of ig (by omega)
  have xng := xp_of ing (by omega)
  have two : ∀ x y : D, Xp x → Xp y → Th (.tuple [x, y]) ∧ Th (.list [x, y]) := fun x y hx hy => th_tup (fun z hz => by
    simp only [List.mem_cons, List.not_mem_nil, or_false] at hz
    rcases hz with rfl | rfl
    · exact hx
    · exact hy) (by show 2 ≤ 3; decide)
  have sg : sgD gs = .tuple (gs.map .int) := rfl
  rw [sg]
  -- what stands ahead of the changes at one place
  have i01 : It (.tuple [.int 0, .int 1]) := (it_pair (by decide) (by decide)).1
  have xa1 := xp_of (as := qs.map fr ++ [.tuple [.int 0, .int 1]]) (fun a ha => by
    rcases List.mem_append.mp ha with
                                                                                                                  ha | ha
    · exact ia a ha
    · rw [List.mem_singleton.mp ha]; exact i01) (by rw [List.length_append, la]; show _ + 1 ≤ 20; omega)
  have xg1 := xp_of (as := gs.map PyData.int ++ [.int 1]) (fun a ha => by
    rcases List.mem_append.mp ha with
                                                                                                                  ha | ha
    · exact ig a ha
    · rw [List.mem_singleton.mp ha]; exact it_int (by decide)) (by rw [List.length_append, lgd]; show _ + 1 ≤ 20; omega)
  have th0 : ∀ d ∈ ([.tuple [.tuple (qs.map fr), .tuple (gs.map .int)], .list [.tuple (qs.map fr), .tuple (gs.map .int)], .tuple [.tuple (qs.map fr)], .tuple [.list (qs.map fr), .tuple (gs.map .int)], .tuple [.tuple (qs.map fr), .list (gs.map .int)], .none, .tuple [], .tuple [.tuple (gs.map .int), .tuple (qs.map fr)], .tuple [.tuple (qs.map fr ++ [.tuple [.int 0, .int 1]]), .tuple (gs.map .int ++ [.int 1])], .tuple [.tuple (qs.map fr), .tuple ((gs.map fun g => -g).map .int)]] : List D), Th d := fun d hd => by
    simp only [List.mem_cons, List.not_mem_nil, or_false] at hd
    rcases hd with rfl | rfl | rfl | rfl | rfl | rfl | rfl | rfl | rfl | rfl
    · exact (two _ _ xa.1 xg.1).1
    · exact (two _ _ xa.1 xg.1).2
    · exact (th_tup (xs := [.tuple (qs.map fr)]) (fun z hz => by rw [List.mem_singleton.mp hz]; exact xa.1) (by show 1 ≤ 3; decide)).1
    · exact (two _ _ xa.2 xg.1).1
    · exact (two _ _ xa.1 xg.2).1
    · exact th_none
    · exact (th_tup (xs := []) (fun z hz => (List.not_mem_nil hz).elim) (by decide)).1
    · exact (two _ _ xg.1 xa.1).1
    · exact (two _ _ xa1.1 xg1.1).1
    · exact (two _ _ xa.1 xng.1).1
  generalize hA : qs.map fr = A at *
  generalize hG : gs.map PyData.int = G at *
  generalize hN : (gs.map fun g => -g).map PyData.int = NG at *
  have lcN : ∀ s0 s1 s2 s3 s5 s6 s7 : Sl, lcL (pNm 8) bYes (vUn dNeg (vVar 8)) [8] G [s0, s1, s2, s3, .val (.tuple G), s5, s6, s7, .no] = .ok NG [s0, s1, s2, s3, .val (.tuple G), s5, s6, s7, .no] := fun s0 s1 s2 s3 s5 s6 s7 => by
    rw [← hG, ← hN, List.map_map (l := gs)]
    exact lcL_each (α := Int) PyData.int _ _ fun x hx => ⟨_, _, rfl, rfl, by simp⟩
  have gl : G.length ≤ LIM := by rw [lgd]; unfold LIM; omega
  have a1 : dAdd (.tuple A) (.tuple [.tuple [.int 0, .int 1]]) = some (.val (.tuple (A ++ [.tuple [.int 0, .int 1]]))) := add_t2 (by rw [la]; show _ + 1 ≤ _; omega)
  have a2 : dAdd (.tuple G) (.tuple [.int 1]) = some (.val (.tuple (G ++ [.int 1]))) := add_t2 (by rw [lgd]; show _ + 1 ≤ _; omega)
  have l0 : 0 ≤ LIM := by decide
  have l1 : 1 ≤ LIM := by decide
  have l2 : 2 ≤ LIM := by decide
  have l6 : 6 ≤ LIM := by decide
  have l8 : 8 ≤ LIM := by decide
  have l9 : 9 ≤ LIM := by decide
  have l9' : 9 < LIM := by decide
  have tspan := tell_spans (ss := ss) (fun p hp => by
    have P := S.all p hp
    have n6' : (0 : Nat) < 6 ∧ 6 < 2 ^ 1900 := ⟨by decide, up (n := 6) (k := 3) (by decide) (by decide)⟩
    exact ⟨P.f1.tq n6' (up (n := 594) (k := 10) (by decide) (by decide)), P.f2.tq n6' (up (n := 594) (k := 10) (by decide) (by decide))⟩) (by omega)
  have ne := ne_tup_nil tspan.1
  have st : ∀ ys, s1__law_near_v2 0 [.own true ys, .val (.tuple (ss.map sp)), .val (.tuple [.tuple A, .tuple G]), .val (.tuple A), .val (.tuple G), .no, .no, .no, .no] = .ok .nx [.own true ys, .val (.tuple (ss.map sp)), .val (.tuple [.tuple A, .tuple G]), .val (.tuple A), .val (.tuple G), .own false [.tuple [.tuple A, .tuple G], .list [.tuple A, .tuple G], .tuple [.tuple A], .tuple [.list A, .tuple G], .tuple [.tuple A, .list G], .none, .tuple [], .tuple [.tuple G, .tuple A], .tuple [.tuple (A ++ [.tuple [.int 0, .int 1]]), .tuple (G ++ [.int 1])]], .no, .no, .no] := fun ys => by
    generalize ss.map sp = SD at *
    unfold s1__law_near_v2
    simp [a1, a2, l0, l1, l2, l9]
  have st2 : ∀ ys, s2__law_near_v2 0 [.own true ys, .val (.tuple (ss.map sp)), .val (.tuple [.tuple A, .tuple G]), .val (.tuple A), .val (.tuple G), .own false [.tuple [.tuple A, .tuple G], .list [.tuple A, .tuple G], .tuple [.tuple A], .tuple [.list A, .tuple G], .tuple [.tuple A, .list G], .none, .tuple [], .tuple [.tuple G, .tuple A], .tuple [.tuple (A ++ [.tuple [.int 0, .int 1]]), .tuple (G ++ [.int 1])]], .no, .no, .no] = .ok .nx [.own true ys, .val (.tuple (ss.map sp)), .val (.tuple [.tuple A, .tuple G]), .val (.tuple A), .val (.tuple G), .own false [.tuple [.tuple A, .tuple G], .list [.tuple A, .tuple G], .tuple [.tuple A], .tuple [.list A, .tuple G], .tuple [.tuple A, .list G], .none, .tuple [], .tuple [.tuple G, .tuple A], .tuple [.tuple (A ++ [.tuple [.int 0, .int 1]]), .tuple (G ++ [.int 1])], .tuple [.tuple A, .tuple NG]], .no, .no, .no] := fun ys => by
    generalize ss.map sp = SD at *
    unfold s2__law_near_v2
    simp [seqOf, noOwn, wipeE, lcN, backE, gl, l2, ownAt, l9']
  generalize ([.tuple [.tuple A, .tuple G], .list [.tuple A, .tuple G], .tuple [.tuple A], .tuple [.list A, .tuple G], .tuple [.tuple A, .list G], .none, .tuple [], .tuple [.tuple G, .tuple A], .tuple [.tuple (A ++ [.tuple [.int 0, .int 1]]), .tuple (G ++ [.int 1])]] : List D) = L9 at *
  generalize hL : ([.tuple [.tuple A, .tuple G], .list [.tuple A, .tuple G], .tuple [.tuple A], .tuple [.list A, .tuple G], .tuple [.tuple A, .list G], .none, .tuple [], .tuple [.tuple G, .tuple A], .tuple [.tuple (A ++ [.tuple [.int 0, .int 1]]), .tuple (G ++ [.int 1])], .tuple [.tuple A, .tuple NG]] : List D) = L10 at *
  have ll : L10.length = 10 := by rw [← hL]; rfl
  -- the whole, the changes at one place told
  have fin : ∀ (ds zs : List D) (s6 s7 s8 : Sl), s3__law_near_v2 0 [.own true ys, .val (.tuple (ss.map sp)), .val (.tuple [.tuple A, .tuple G]), .val (.tuple A), .val (.tuple G), .own false L10, .no, .no, .no] = .ok .nx [.own true zs, .val (.tuple (ss.map sp)), .val (.tuple [.tuple A, .tuple G]), .val (.tuple A), .val (.tuple G), .own false ds, s6, s7, s8] → m__law_near_v2 ys [.tuple (ss.map sp), .tuple [.tuple A, .tuple G]] = some (.ret (.own false ds), zs) := fun ds zs s6 s7 s8 h => by
    have s1' := st ys
    have s2' := st2 ys
    generalize ss.map sp = SD at *
    unfold m__law_near_v2 runB g__law_near_v2
    simp [startE, s1', s2', h]
  by_cases hn : ss = []
  · refine ⟨L10, ys, fin L10 ys .no .no .no ?_, hb, th0⟩
    have e0 : (ss.map sp).isEmpty = true := by rw [hn]; rfl
    rw [e0] at ne
    generalize ss.map sp = SD at *
    unfold s3__law_near_v2
    simp [ne]
  · have e0 : (ss.map sp).isEmpty = false := by
      cases ss with
      | nil => exact absurd rfl hn
      | cons _ _ => rfl
    rw [e0] at ne
    have n0 : 0 < ss.length := List.length_pos_iff.mpr hn
    obtain ⟨v, y1, e1, v0, v1, B1⟩ := take_ok hb (many := (ss.length : Int)) (by omega) (by omega)
    obtain ⟨k, rfl⟩ : ∃ k : Nat, v = (k : Int) := ⟨v.toNat, by omega⟩
    have kn : k < ss.length := by omega
    have ta : cutD A none (some (k : Int)) = A.take k := cut_hi2 A k
    have da : cutD A (some ((k : Int) + 1)) none = A.drop (k + 1) := cut_lo2 A k
    have tg : cutD G none (some (k : Int)) = G.take k := cut_hi2 G k
    have dg : cutD G (some ((k : Int) + 1)) none = G.drop (k + 1) := cut_lo2 G k
    have sl1 : ∀ (xs : List D) (lo hi : Option Int), dSl (.tuple xs) lo hi = some (.val (.tuple (cutD xs lo hi))) := fun _ _ _ => rfl
    have turn1 : ∀ (x : D), It x → ∀ (L : List D) (ys : List D) (s7 : Sl), L.length ≤ 100 → b1__law_near_v2 0 [.own true ys, .val (.tuple (ss.map sp)), .val (.tuple [.tuple A, .tuple G]), .val (.tuple A), .val (.tuple G), .own false L, .val (.int (k : Int)), .val x, .no] = .ok .nx [.own true ys, .val (.tuple (ss.map sp)), .val (.tuple [.tuple A, .tuple G]), .val (.tuple A), .val (.tuple G), .own false (L ++ [.tuple [.tuple (putL k x A), .tuple G]]), .val (.int (k : Int)), .val x, .no] := fun x hx L ys s7 hL => by
      have b1 : dAdd (.tuple (A.take k)) (.tuple [x]) = some (.val (.tuple (A.take k ++ [x]))) := add_t2 (by rw [List.length_take]; show _ + 1 ≤ _; omega)
      have b2 : dAdd (.tuple (A.take k ++ [x])) (.tuple (A.drop (k + 1))) = some (.val (.tuple (putL k x A))) := add_t2 (by rw [List.length_append, List.length_take, List.length_drop]; show _ + 1 + _ ≤ _; omega)
      have ll1 : L.length < LIM := by unfold LIM; omega
      generalize ss.map sp = SD at *
      generalize A.take k ++ [x] = T1 at *
      generalize putL k x A = T2 at *
      generalize A.take k = T3 at *
      generalize A.drop (k + 1) = T4 at *
      unfold b1__law_near_v2
      simp [sl1, ta, da, b1, b2, l1, l2, ownAt, ll1]
    have turn2 : ∀ (x : D), It x → ∀ (L : List D) (ys : List D) (s7 : Sl), L.length ≤ 100 → b2__law_near_v2 0 [.own true ys, .val (.tuple (ss.map sp)), .val (.tuple [.tuple A, .tuple G]), .val (.tuple A), .val (.tuple G), .own false L, .val (.int (k : Int)), s7, .val x] = .ok .nx [.own true ys, .val (.tuple (ss.map sp)), .val (.tuple [.tuple A, .tuple G]), .val (.tuple A), .val (.tuple G), .own false (L ++ [.tuple [.tuple A, .tuple (putL k x G)]]), .val (.int (k : Int)), s7, .val x] := fun x hx L ys s7 hL => by
      have b1 : dAdd (.tuple (G.take k)) (.tuple [x]) = some (.val (.tuple (G.take k ++ [x]))) := add_t2 (by rw [List.length_take]; show _ + 1 ≤ _; omega)
      have b2 : dAdd (.tuple (G.take k ++ [x])) (.tuple (G.drop (k + 1))) = some (.val (.tuple (putL k x G))) := add_t2 (by rw [List.length_append, List.length_take, List.length_drop]; show _ + 1 + _ ≤ _; omega)
      have ll1 : L.length < LIM := by unfold LIM; omega
      generalize ss.map sp = SD at *
      generalize G.take k ++ [x] = T1 at *
      generalize putL k x G = T2 at *
      generalize G.take k = T3 at *
      generalize G.drop (k + 1) = T4 at *
      unfold b2__law_near_v2
      simp [sl1, tg, dg, b1, b2, l1, l2, ownAt, ll1]
    have xpa : ∀ x, It x → Xp (.tuple (putL k x A)) := fun x hx => (xp_of (putL_it hx ia) (by have := putL_len (k := k) (x := x) (l := A); omega)).1
    have xpg : ∀ x, It x → Xp (.tuple (putL k x G)) := fun x hx => (xp_of (putL_it hx ig) (by have := putL_len (k := k) (x := x) (l := G); omega)).1
    have run1 : ∀ xs : List D, (∀ x ∈ xs, It x) → xs.length ≤ 20 → ∃ L' s7', forL (pNm 7) (b1__law_near_v2 0) xs [.own true y1, .val (.tuple (ss.map sp)), .val (.tuple [.tuple A, .tuple G]), .val (.tuple A), .val (.tuple G), .own false L10, .val (.int (k : Int)), .no, .no] = .ok .nx [.own true y1, .val (.tuple (ss.map sp)), .val (.tuple [.tuple A, .tuple G]), .val (.tuple A), .val (.tuple G), .own false L', .val (.int (k : Int)), s7', .no] ∧ L'.length ≤ 40 ∧ ∀ d ∈ L', Th d := fun xs hxs hl => by
      obtain ⟨e', lp, L', s7', rfl, len, al, -⟩ := for_each (pat := pNm 7) (b := b1__law_near_v2 0) id (fun xs e => ∃ (L : List D) (s7 : Sl), e = [.own true y1, .val (.tuple (ss.map sp)), .val (.tuple [.tuple A, .tuple G]), .val (.tuple A), .val (.tuple G), .own false L, .val (.int (k : Int)), s7, .no] ∧ L.length + xs.length ≤ 40 ∧ (∀ d ∈ L, Th d) ∧ ∀ x ∈ xs, It x) (fun x xs e ⟨L, s7, he, len, al, hx⟩ => by
        subst he
        rw [List.length_cons] at len
        have ix := hx x (List.mem_cons_self ..)
        refine ⟨_, _, rfl, turn1 x ix L y1 s7 (by omega), _, _, rfl, by rw [List.length_append]; show L.length + 1 + xs.length ≤ 40; omega, fun d hd => ?_, fun z hz => hx z (List.mem_cons_of_mem _ hz)⟩
        rcases List.mem_append.mp hd with hd | hd
        · exact al d hd
        · rw [List.mem_singleton.mp hd]
          exact (two _ _ (xpa x ix) xg.1).1) xs [.own true y1, .val (.tuple (ss.map sp)), .val (.tuple [.tuple A, .tuple G]), .val (.tuple A), .val (.tuple G), .own false L10, .val (.int (k : Int)), .no, .no] ⟨L10, .no, rfl, by omega, th0, hxs⟩
      rw [List.map_id] at lp
      exact ⟨L', s7', lp, by omega, al⟩
    have run2 : ∀ (L0 : List D) (s7 : Sl), L0.length ≤ 40 → (∀ d ∈ L0, Th d) → ∀ xs : List D, (∀ x ∈ xs, It x) → xs.length ≤ 20 → ∃ L' s8', forL (pNm 8) (b2__law_near_v2 0) xs [.own true y1, .val (.tuple (ss.map sp)), .val (.tuple [.tuple A, .tuple G]), .val (.tuple A), .val (.tuple G), .own false L0, .val (.int (k : Int)), s7, .no] = .ok .nx [.own true y1, .val (.tuple (ss.map sp)), .val (.tuple [.tuple A, .tuple G]), .val (.tuple A), .val (.tuple G), .own false L', .val (.int (k : Int)), s7, s8'] ∧ ∀ d ∈ L', Th d := fun L0 s7 h0 t0 xs hxs hl => by
      obtain ⟨e', lp, L', s8', rfl, len, al, -⟩ := for_each (pat := pNm 8) (b := b2__law_near_v2 0) id (fun xs e => ∃ (L : List D) (s8 : Sl), e = [.own true y1, .val (.tuple (ss.map sp)), .val (.tuple [.tuple A, .tuple G]), .val (.tuple A), .val (.tuple G), .own false L, .val (.int (k : Int)), s7, s8] ∧ L.length + xs.length ≤ 60 ∧ (∀ d ∈ L, Th d) ∧ ∀ x ∈ xs, It x) (fun x xs e ⟨L, s8, he, len, al, hx⟩ => by
        subst he
        rw [List.length_cons] at len
        have ix := hx x (List.mem_cons_self ..)
        refine ⟨_, _, rfl, turn2 x ix L y1 s7 (by omega), _, _, rfl, by rw [List.length_append]; show L.length + 1 + xs.length ≤ 60; omega, fun d hd => ?_, fun z hz => hx z (List.mem_cons_of_mem _ hz)⟩
        rcases List.mem_append.mp hd with hd | hd
        · exact al d hd
        · rw [List.mem_singleton.mp hd]
          exact (two _ _ xa.1 (xpg x ix)).1) xs [.own true y1, .val (.tuple (ss.map sp)), .val (.tuple [.tuple A, .tuple G]), .val (.tuple A), .val (.tuple G), .own false L0, .val (.int (k : Int)), s7, .no] ⟨L0, .no, rfl, by omega, t0, hxs⟩
      rw [List.map_id] at lp
      exact ⟨L', s8', lp, al⟩
    -- the things at the place
    obtain ⟨q, hq, hA'⟩ : ∃ q, Fx 72 60000 q ∧ L2.atI A (k : Int) = some (fr q) := by
      have hk : k < qs.length := by omega
      refine ⟨qs[k], fq _ (List.getElem_mem hk), ?_⟩
      rw [← hA]
      unfold L2.atI
      rw [ix_nat (by rw [List.length_map]; exact hk)]
      show (qs.map fr)[k]? = _
      rw [List.getElem?_map, List.getElem?_eq_getElem hk]
      rfl
    obtain ⟨p, hp, hP⟩ : ∃ p, Span 6 594 p ∧ L2.atI (ss.map sp) (k : Int) = some (sp p) := by
      refine ⟨ss[k], S.all _ (List.getElem_mem kn), ?_⟩
      unfold L2.atI
      rw [ix_nat (by rw [List.length_map]; exact kn)]
      show (ss.map sp)[k]? = _
      rw [List.getElem?_map, List.getElem?_eq_getElem kn]
      rfl
    obtain ⟨g, hg, hG'⟩ : ∃ g : Int, (g = 1 ∨ g = -1) ∧ L2.atI G (k : Int) = some (.int g) := by
      have hk : k < gs.length := by omega
      refine ⟨gs[k], pm _ (List.getElem_mem hk), ?_⟩
      rw [← hG]
      unfold L2.atI
      rw [ix_nat (by rw [List.length_map]; exact hk)]
      show (gs.map PyData.int)[k]? = _
      rw [List.getElem?_map, List.getElem?_eq_getElem hk]
      rfl
    have third : PyData.tuple [.int 1, .int 3] = fr (Rat.divInt 1 3) := rfl
    have f3 : Fx 72 60000 (Rat.divInt 1 3) := divInt_fx (k := 24) (by decide) (by decide) (by decide) (by decide)
    have pl := plus2 (N := 72) (M := 60000) (by decide) (up (n := 72) (k := 7) (by decide) (by decide)) (up (n := 60000) (k := 16) (by decide) (by decide)) hq f3
    rw [← third] at pl
    have fsum : Fx 72 100000 (q + Rat.divInt 1 3) := by
      have f3' : Fx 72 24 (Rat.divInt 1 3) := divInt_fx (k := 24) (by decide) (by decide) (by decide) (by decide)
      exact (hq.add f3').mono (by decide)
    have fl : ∀ {x : Rat}, Fx 6 594 x → Fx 72 100000 x := fun h => (h.fine 12 (by decide)).mono (by decide)
    have i0 : dIx (sp p) (.int 0) = some (.val (fr p.1)) := rfl
    have i1 : dIx (sp p) (.int 1) = some (.val (fr p.2)) := rfl
    have ones : ∀ x ∈ ([fr (q + Rat.divInt 1 3), fr p.1, fr p.2, .tuple [.int 2, .int 2], .int 1, .none, .list [.int 1, .int 1], .tuple [.int 1, .int (-1)]] : List D), It x := fun x hx => by
      simp only [List.mem_cons,
                                                                                                                    List.not_mem_nil, or_false] at hx
      rcases hx with rfl | rfl | rfl | rfl | rfl | rfl | rfl | rfl
      · exact it_fr fsum
      · exact it_fr (fl hp.f1)
      · exact it_fr (fl hp.f2)
      · exact (it_pair (by decide) (by decide)).1
      · exact it_int (by decide)
      · exact it_none
      · exact (it_pair (by decide) (by decide)).2
      · exact (it_pair (by decide) (by decide)).1
    have signs : ∀ x ∈ ([.int (-g), .int 0, .bool true, .int 2, .tuple [.int 1, .int 1], .none] : List D), It x := fun x hx => by
      simp only [List.mem_cons,
                                                                                                                    List.not_mem_nil, or_false] at hx
      rcases hx with rfl | rfl | rfl | rfl | rfl | rfl
      · exact it_int (by rcases hg with rfl | rfl <;> decide)
      · exact it_int (by decide)
      · exact it_bool true
      · exact it_int (by decide)
      · exact (it_pair (by decide) (by decide)).1
      · exact it_none
    obtain ⟨L1, s7', r1, len1, t1⟩ := run1 _ ones (by show 8 ≤ 20; decide)
    obtain ⟨L2', s8', r2, t2⟩ := run2 L1 s7' len1 t1 _ signs (by show 6 ≤ 20; decide)
    refine ⟨L2', y1, fin L2' y1 (.val (.int (k : Int))) s7' s8' ?_, B1, t2⟩
    have slen : (ss.map sp).length = ss.length := List.length_map ..
    generalize fr (q + Rat.divInt 1 3) = Q3 at *
    generalize fr q = Q0 at *
    generalize fr p.1 = P1 at *
    generalize fr p.2 = P2 at *
    generalize sp p = PP at *
    generalize ss.map sp = SD at *
    unfold s3__law_near_v2
    simp [ne, slen, e1, hA', hP, hG', i0, i1, pl, l2, l6, l8, seqOf, r1, r2]
end Sg

namespace G74
open PySem Mv Sh Fr Sg
theorem seq_nx {g h : MS} {e e1 : En} (p : g e = .ok .nx e1) : sSeq g h e = h e1 := by unfold sSeq; rw [p]
theorem tell_two {x y : D} (hx : Xp x) (hy : Xp y) : Tell (.tuple [x, y]) :=
  (tell_list (ds := [x, y]) (w := 100000) (h := 2) (fun z hz => by
    simp only [List.mem_cons, List.not_mem_nil, or_false] at hz
    rcases hz with rfl | rfl
    · exact ⟨hx.p, hx.w, hx.d⟩
    · exact ⟨hy.p, hy.w, hy.d⟩) (by show 2 * (100000 + 2) + 3 ≤ 1000000; decide) (by decide)).2
theorem tell_bool (b : Bool) : Tell (.bool b) := tell_of trivial (by show 5 ≤ 1000000; decide) (by simp [PyData.depth])
/-! ### spans that have a signing close -/
theorem closes_sgn {ss : List (Rat × Rat)} (S : Spz ss) {as : List Rat} {gs : List Int} (h : Sgn ss as gs) : closesB ss = true := by
  have key : ∀ (ss : List (Rat × Rat)) (as : List Rat) (gs : List Int), as.length = ss.length → gs.length = ss.length → Pm gs → (∀ x ∈ ss.zip as, 0 ≤ x.2 ∧ x.2 ≤ x.1.2) →
      (-(tot ss) ≤ sgn as gs ∧ sgn as gs ≤ tot ss) ∧ ∀ (k : Nat) (h1 : k < ss.length) (h2 : k < as.length) (h3 : k < gs.length), -(tot ss - ss[k].2) ≤ sgn as gs - as[k] * (gs[k] : Rat) ∧ sgn as gs - as[k] * (gs[k] : Rat) ≤ tot ss - ss[k].2 := fun ss => by
    induction ss with
    | nil =>
      intro as gs l1 l2 _ _
      have : as = [] := List.eq_nil_of_length_eq_zero l1
      subst this
      refine ⟨?_, fun k h1 => by cases h1⟩
      show -(0 : Rat) ≤ 0 ∧ (0 : Rat) ≤ 0
      exact ⟨by grind, Rat.le_refl⟩
    | cons p ss ih =>
      intro as gs l1 l2 pm hi
      match as, gs, l1, l2 with
      | a :: as, g :: gs, l1, l2 =>
        obtain ⟨i1, i2⟩ := ih as gs (by simpa using l1) (by simpa using l2) (fun x hx => pm x (List.mem_cons_of_mem _ hx)) (fun x hx => hi x (by rw [List.zip_cons_cons]; exact List.mem_cons_of_mem _ hx))
        obtain ⟨a0, au⟩ := hi (p, a) (by rw [List.zip_cons_cons]; exact List.mem_cons_self ..)
        dsimp only at a0 au
        have e1 : sgn (a :: as) (g :: gs) = a * (g : Rat) + sgn as gs := rfl
        have e2 : tot (p :: ss) = p.2 + tot ss := rfl
        have ag : -p.2 ≤ a * (g : Rat) ∧ a * (g : Rat) ≤ p.2 := by
          rcases pm g (List.mem_cons_self ..) with rfl | rfl
          · push_cast; constructor <;> grind
          · push_cast; constructor <;> grind
        rw [e1, e2]
        refine ⟨⟨by grind, by grind⟩, fun k h1 h2 h3 => ?_⟩
        cases k with
        | zero =>
          show -(p.2 + tot ss - p.2) ≤ a * (g : Rat) + sgn as gs - a * (g : Rat) ∧ a * (g : Rat) + sgn as gs - a * (g : Rat) ≤ p.2 + tot ss - p.2
          constructor <;> grind
        | succ k =>
          have i3 := i2 k (by simpa using h1) (by simpa using h2) (by simpa using h3)
          simp only [List.getElem_cons_succ]
          generalize as[k]'(by simpa using h2) * ((gs[k]'(by simpa using h3) : Int) : Rat) = u at *
          constructor <;> grind
  obtain ⟨-, k2⟩ := key ss as gs h.la h.lg h.s fun x hx => by
    obtain ⟨h1, h2⟩ := h.i x hx
    exact ⟨Rat.le_trans (S.all _ (List.of_mem_zip hx).1).lo h1, h2⟩
  unfold closesB
  rw [List.all_eq_true]
  intro p hp
  rw [decide_eq_true_eq]
  obtain ⟨k, hk, rfl⟩ := List.getElem_of_mem hp
  have ha : k < as.length := by rw [h.la]; exact hk
  have hg : k < gs.length := by rw [h.lg]; exact hk
  have kk := k2 k hk ha hg
  rw [h.z] at kk
  have hz : k < (ss.zip as).length := by rw [List.length_zip]; omega
  have hi := h.i _ (List.getElem_mem hz)
  rw [List.getElem_zip] at hi
  dsimp only at hi
  rcases h.s _ (List.getElem_mem hg) with e | e <;> rw [e] at kk
  · push_cast at kk
    grind
  · push_cast at kk
    grind
theorem sgB_of {ss : List (Rat × Rat)} {as : List Rat} {gs : List Int} (h : Sgn ss as gs) : sgB ss (as.map fr) (gs.map .int) = true := by
  have t1 : (as.map fr).map toQ = as := by
    rw [List.map_map]
    have : toQ ∘ fr = id := funext toQ_fr
    rw [this, List.map_id]
  have t2 := toI_map gs
  unfold sgB
  rw [t1, t2, List.length_map, List.length_map, decide_eq_true h.la, decide_eq_true h.lg, decide_eq_true h.z, Bool.true_and, Bool.true_and, Bool.and_true, Bool.and_eq_true]
  constructor
  · rw [List.all_eq_true]
    intro x hx
    obtain ⟨g, hg, rfl⟩ := List.mem_map.mp hx
    show (decide (g = 1) || decide (g = -1)) = true
    rcases h.s g hg with rfl | rfl <;> decide
  · rw [List.all_eq_true]
    intro x hx
    obtain ⟨k, hk, rfl⟩ := List.getElem_of_mem hx
    rw [List.length_zip, List.length_map] at hk
    have hz : k < (ss.zip as).length := by rw [List.length_zip]; omega
    have hi := h.i _ (List.getElem_mem hz)
    rw [List.getElem_zip] at hi
    dsimp only at hi
    rw [List.getElem_zip, List.getElem_map]
    unfold amtB
    dsimp only
    rw [fr_frB, toQ_fr, Bool.true_and, Bool.and_eq_true, decide_eq_true_eq, decide_eq_true_eq]
    exact hi
theorem sign_cases {d : D} (h : d ∈ ([.int 1, .int (-1)] : List D)) : ∃ s : Int, d = .int s ∧ (s = 1 ∨ s = -1) := by
  simp only [List.mem_cons, List.not_mem_nil, or_false] at h
  rcases h with rfl | rfl
  · exact ⟨1, rfl, .inl rfl⟩
  · exact ⟨-1, rfl, .inr rfl⟩
theorem many_cases {d : D} (h : d ∈ ([.int 3, .int 0, .int 1, .int 2, .int 4, .int 5, .int 6, .int 8, .int 12] : List D)) : ∃ n : Nat, d = .int (n : Int) ∧ n ≤ 12 := by
  simp only [List.mem_cons, List.not_mem_nil, or_false] at h
  rcases h with rfl | rfl | rfl | rfl | rfl | rfl | rfl | rfl | rfl
  · exact ⟨3, rfl, by decide⟩
  · exact ⟨0, rfl, by decide⟩
  · exact ⟨1, rfl, by decide⟩
  · exact ⟨2, rfl, by decide⟩
  · exact ⟨4, rfl, by decide⟩
  · exact ⟨5, rfl, by decide⟩
  · exact ⟨6, rfl, by decide⟩
  · exact ⟨8, rfl, by decide⟩
  · exact ⟨12, rfl, by decide⟩
theorem most_cases {d : D} (h : d ∈ ([.int 9, .int 3, .int 99] : List D)) : ∃ n : Nat, d = .int (n : Int) ∧ n ≤ 99 := by
  simp only [List.mem_cons, List.not_mem_nil, or_false] at h
  rcases h with rfl | rfl | rfl
  · exact ⟨9, rfl, by decide⟩
  · exact ⟨3, rfl, by decide⟩
  · exact ⟨99, rfl, by decide⟩
section
variable {ss : List (Rat × Rat)} {ys : List D}
theorem s1_ok (B : BagOk ys) (s0 s2 s3 s4 s5 s6 s7 s8 s9 : Sl) : ∃ (ss : List (Rat × Rat)) (zs : List D), s1_law 0 [s0, .own false ys, s2, s3, s4, s5, s6, s7, s8, s9, .no] = .ok .nx [s0, .own false zs, s2, .val (.tuple (ss.map sp)), s4, s5, s6, s7, s8, s9, .no] ∧ BagOk zs ∧ Spz ss := by
  obtain ⟨d, y1, e1, hd, B1⟩ := one_list B (ds := [.int 3, .int 0, .int 1, .int 2, .int 4, .int 5, .int 6, .int 8, .int 12]) (by simp) (by simp)
  obtain ⟨n, rfl, hn⟩ := many_cases hd
  obtain ⟨d, y2, e2, hd, B2⟩ := one_list B1 (ds := [.int 9, .int 3, .int 99]) (by simp) (by simp)
  obtain ⟨m, rfl, hm⟩ := most_cases hd
  obtain ⟨ss, y3, e3, B3, len, al⟩ := spans_ok B2 (many := n) (most := m) (by omega) (by omega)
  refine ⟨ss, y3, ?_, B3, by omega, fun p hp => ?_⟩
  · have l9 : 9 ≤ LIM := by decide
    have l3 : 3 ≤ LIM := by decide
    generalize ss.map sp = SD at *
    generalize (n : Int) = ni at *
    generalize (m : Int) = mi at *
    unfold s1_law
    simp [e1, e2, e3, l9, l3]
  · have P := al p hp
    exact ⟨P.lo, P.le, P.f1.mono (by omega), P.f2.mono (by omega)⟩
theorem s2_ok (S : Spz ss) (B : BagOk ys) (s0 s2 s4 s5 s6 s7 s8 s9 : Sl) : ∃ (ts : List (Rat × Rat)) (zs : List D), s2_law 0 [s0, .own false ys, s2, .val (.tuple (ss.map sp)), s4, s5, s6, s7, s8, s9, .no] = .ok .nx [s0, .own false zs, s2, .val (.tuple (ts.map sp)), s4, s5, s6, s7, s8, s9, .no] ∧ BagOk zs ∧ Spz ts := by
  obtain ⟨v, y1, e1, v0, v1, B1⟩ := take_ok B (many := 3) (by decide) (by decide)
  by_cases hv : v = 0
  · obtain ⟨u, y2, e2, u0, u1, B2⟩ := take_ok B1 (many := 3) (by decide) (by decide)
    obtain ⟨k, rfl⟩ : ∃ k : Nat, u = (k : Int) := ⟨u.toNat, by omega⟩
    subst hv
    have sl := S.len
    refine ⟨(ss ++ ss.take k).take 12, y2, ?_, B2, by rw [List.length_take]; omega, fun p hp => ?_⟩
    · have sl1 : ∀ (xs : List D) (lo hi : Option Int), dSl (.tuple xs) lo hi = some (.val (.tuple (cutD xs lo hi))) := fun _ _ _ => rfl
      have t1 : cutD (ss.map sp) none (some (k : Int)) = (ss.take k).map sp := by rw [cut_hi2, List.map_take]
      have a1 : dAdd (.tuple (ss.map sp)) (.tuple ((ss.take k).map sp)) = some (.val (.tuple ((ss ++ ss.take k).map sp))) := by
        rw [List.map_append]
        exact add_t2 (by rw [List.length_map, List.length_map, List.length_take]; omega)
      have t2 : cutD ((ss ++ ss.take k).map sp) none (some 12) = ((ss ++ ss.take k).take 12).map sp := by
        have := cut_hi2 ((ss ++ ss.take k).map sp) 12
        rw [← List.map_take] at this
        exact this
      generalize ((ss ++ ss.take k).take 12).map sp = S3 at *
      generalize (ss ++ ss.take k).map sp = S2 at *
      generalize (ss.take k).map sp = S1 at *
      generalize ss.map sp = SD at *
      unfold s2_law
      simp [e1, e2, sl1, t1, a1, t2]
    · have hp := List.mem_of_mem_take hp
      rcases List.mem_append.mp hp with
                                                                                                                    hp | hp
      · exact S.all p hp
      · exact S.all p (List.mem_of_mem_take hp)
  · refine ⟨ss, y1, ?_, B1, S⟩
    generalize ss.map sp = SD at *
    unfold s2_law
    simp [e1, hv]
theorem tq_spans (S : Spz ss) : Tell (.tuple (ss.map sp)) := tell_spans (ss := ss) (fun p hp => by
    have P := S.all p hp
    have n6' : (0 : Nat) < 6 ∧ 6 < 2 ^ 1900 := ⟨by decide, up (n := 6) (k := 3) (by decide) (by decide)⟩
    exact ⟨P.f1.tq n6' (up (n := 594) (k := 10) (by decide) (by decide)), P.f2.tq n6' (up (n := 594) (k := 10) (by decide) (by decide))⟩) (by have := S.len; omega)
theorem rep_of {d : D} (h : repOk d) : dRepr [d] = some (.val (.str d.shown)) := by
  show (if repOk d then some (Sl.val (PyData.str d.shown)) else none) = _
  rw [if_pos h]
theorem thing_ok (S : Spz ss) {d : D} (T : Th d) (s0 s1 s2 s4 s5 s6 s7 s9 : Sl) : b1_law 0 [s0, s1, s2, .val (.tuple (ss.map sp)), s4, s5, s6, s7, .val d, s9, .no] = .ok .nx [s0, s1, s2, .val (.tuple (ss.map sp)), s4, s5, s6, s7, .val d, .val (.str d.shown), .no] := by
  have rp := rep_of T.r
  have c1 := is_signing_any S T.g
  have c2 := law_signing_any S T.g
  have al := alike_ok (tell_bool (sigB ss d))
  generalize d.shown = SH at *
  generalize sigB ss d = SB at *
  generalize ss.map sp = SD at *
  unfold b1_law
  simp [rp, c1, c2, agsOf, agOf, al, lendR, scal0]
end
/-- what is found and what is due -/
theorem base_ok {ss : List (Rat × Rat)} {ys : List D} (S : Spz ss) (B : BagOk ys) (s0 s2 s4 s5 s6 s7 s8 s9 : Sl) : ∃ (qs : List Rat) (gs : List Int) (zs : List D) (e5 : D) (due : Bool) (qd : D),
    sSeq (s3_law 0) (sSeq (s4_law 0) (sSeq (s5_law 0) (s6_law 0))) [s0, .own false ys, s2, .val (.tuple (ss.map sp)), s4, s5, s6, s7, s8, s9, .no] = .ok .nx [s0, .own false zs, s2, .val (.tuple (ss.map sp)), .val (.str (PyData.tuple (ss.map sp)).shown), .val e5, .val (.bool due), .val (.tuple [.tuple (qs.map fr), sgD gs]), s8, s9, .no] ∧ BagOk zs ∧ qs.length = ss.length ∧ gs.length = ss.length ∧ (∀ q ∈ qs, Fx 72 60000 q) ∧ Pm gs := by
  have sl := S.len
  have rp := rep_of (tq_spans S).2
  obtain ⟨b, eb, hb⟩ := some_signs_ok S
  have cl := m_closes_eq (N := 6) (M := 594) (ss := ss) ⟨S.all, by omega, by decide, up (n := 6) (k := 3) (by decide) (by decide), up (n := 594) (k := 10) (by decide) (by decide)⟩
  rcases signing_ok S with ⟨e, no⟩ | ⟨as, gs, e, sn, fx, dd⟩
  · have b0 : b = false := by
      cases b with
      | false => rfl
      | true =>
        obtain ⟨gs, pm, gl, d⟩ := hb.mp rfl
        exact absurd d (no gs pm gl)
    subst b0
    -- amounts and signs are drawn
    have s6' : ∀ (t4 t5 : Sl), ∃ (qs : List Rat) (gs : List Int) (zs : List D), s6_law 0 [s0, .own false ys, s2, .val (.tuple (ss.map sp)), t4, t5, .val (.bool false), s7, s8, s9, .no] = .ok .nx [s0, .own false zs, s2, .val (.tuple (ss.map sp)), t4, t5, .val (.bool false), .val (.tuple [.tuple (qs.map fr), sgD gs]), s8, s9, .no] ∧ BagOk zs ∧ qs.length = ss.length ∧ gs.length = ss.length ∧ (∀ q ∈ qs, Fx 72 60000 q) ∧ Pm gs := fun t4 t5 => by
      obtain ⟨zs, e', c1, c2, c3, y1, rfl, B1⟩ := lcL_draw (pat := pNm 10) (el := e1_law 0) (vs := [10]) sp fr (fun _ q => Fx 72 60000 q) (fun e => ∃ us, e = [s0, .own false us, s2, .val (.tuple (ss.map sp)), t4, t5, .val (.bool false), s7, s8, s9, .no] ∧ BagOk us) ss (fun p hp e ⟨us, he, B⟩ => by
        subst he
        have P := S.all p hp
        obtain ⟨q, y1, e1, B1, -, fq⟩ := mean_ok B (C := 6) (M := 594) ⟨by decide, up (n := 6) (k := 3) (by decide) (by decide), up (n := 594) (k := 10) (by decide) (by decide)⟩ (p := p) ⟨P.lo, P.le, P.f1, P.f2⟩
        refine ⟨_, _, q, [s0, .own false y1, s2, .val (.tuple (ss.map sp)), t4, t5, .val (.bool false), s7, s8, s9, .val (sp p)], rfl, ?_, fq.mono (by decide), y1, rfl, B1⟩
        generalize ss.map sp = SD at *
        generalize sp p = PD at *
        generalize fr q = QD at *
        unfold e1_law
        simp [e1]) [s0, .own false ys, s2, .val (.tuple (ss.map sp)), t4, t5, .val (.bool false), s7, s8, s9, .no] ⟨ys, rfl, B⟩
      obtain ⟨ws, e', d1, d2, d3, y2, rfl, B2⟩ := lcL_draw (pat := pNm 10) (el := e2_law 0) (vs := [10]) sp PyData.int (fun _ g => g = 1 ∨ g = -1) (fun e => ∃ us, e = [s0, .own false us, s2, .val (.tuple (ss.map sp)), t4, t5, .val (.bool false), s7, s8, s9, .no] ∧ BagOk us) ss (fun p hp e ⟨us, he, B⟩ => by
        subst he
        obtain ⟨d, y1, e1, hd, B1⟩ := one_list B (ds := [.int 1, .int (-1)]) (by simp) (by simp)
        obtain ⟨g, rfl, hg⟩ := sign_cases hd
        have l2 : 2 ≤ LIM := by decide
        refine ⟨_, _, g, [s0, .own false y1, s2, .val (.tuple (ss.map sp)), t4, t5, .val (.bool false), s7, s8, s9, .val (sp p)], rfl, ?_, hg, y1, rfl, B1⟩
        generalize ss.map sp = SD at *
        generalize sp p = PD at *
        unfold e2_law
        simp [e1, l2]) [s0, .own false y1, s2, .val (.tuple (ss.map sp)), t4, t5, .val (.bool false), s7, s8, s9, .no] ⟨y1, rfl, B1⟩
      have ez : (zs.map fun z => fr z.2) = (zs.map (·.2)).map fr := by rw [List.map_map]; rfl
      have ew : (ws.map fun z => PyData.int z.2) = (ws.map (·.2)).map .int := by rw [List.map_map]; rfl
      rw [ez] at c1
      rw [ew] at d1
      have lz := congrArg List.length c2
      have lw := congrArg List.length d2
      rw [List.length_map] at lz lw
      refine ⟨zs.map (·.2), ws.map (·.2), y2, ?_, B2, by rw [List.length_map]; exact lz, by rw [List.length_map]; exact lw, fun q hq => ?_, fun g hg => ?_⟩
      · have sg : sgD (ws.map (·.2)) = .tuple ((ws.map (·.2)).map .int) := rfl
        rw [sg]
        have l2 : 2 ≤ LIM := by decide
        have sll : (ss.map sp).length ≤ LIM := by rw [List.length_map]; unfold LIM; omega
        generalize (zs.map (·.2)).map fr = ZD at *
        generalize (ws.map (·.2)).map PyData.int = WD at *
        generalize ss.map sp = SD at *
        unfold s6_law
        simp [seqOf, noOwn, wipeE, c1, d1, backE, l2, sll]
      · obtain ⟨z, hz, rfl⟩ := List.mem_map.mp hq
        exact c3 z hz
      · obtain ⟨z, hz, rfl⟩ := List.mem_map.mp hg
        exact d3 z hz
    obtain ⟨qs, gs, zs, e6, B6, lq, lg, fq, pm⟩ := s6' (.val (.str (PyData.tuple (ss.map sp)).shown)) (.val .none)
    refine ⟨qs, gs, zs, .none, false, .none, ?_, B6, lq, lg, fq, pm⟩
    have al := alike_ok tell_none
    have di : dIsnt .none .none = some (.val (.bool false)) := rfl
    have db : dNe (.bool false) (.bool false) = some (.val (.bool false)) := by
      rw [dNe]
      · rw [if_pos ⟨shaped_bool false, shaped_bool false⟩]
        simp [PyData.eqv]
      · intro _ _ h; cases h
    have e3 : s3_law 0 [s0, .own false ys, s2, .val (.tuple (ss.map sp)), s4, s5, s6, s7, s8, s9, .no] = .ok .nx [s0, .own false ys, s2, .val (.tuple (ss.map sp)), .val (.str (PyData.tuple (ss.map sp)).shown), .val .none, .val (.bool false), s7, s8, s9, .no] := by
      generalize (PyData.tuple (ss.map sp)).shown = SH at *
      generalize ss.map sp = SD at *
      unfold s3_law
      simp [rp, e, eb]
    have e4 : s4_law 0 [s0, .own false ys, s2, .val (.tuple (ss.map sp)), .val (.str (PyData.tuple (ss.map sp)).shown), .val .none, .val (.bool false), s7, s8, s9, .no] = .ok .nx [s0, .own false ys, s2, .val (.tuple (ss.map sp)), .val (.str (PyData.tuple (ss.map sp)).shown), .val .none, .val (.bool false), s7, s8, s9, .no] := by
      generalize (PyData.tuple (ss.map sp)).shown = SH at *
      generalize ss.map sp = SD at *
      unfold s4_law
      simp [di, db, e, agsOf, agOf, al, lendR, scal0]
    have e5 : s5_law 0 [s0, .own false ys, s2, .val (.tuple (ss.map sp)), .val (.str (PyData.tuple (ss.map sp)).shown), .val .none, .val (.bool false), s7, s8, s9, .no] = .ok .nx [s0, .own false ys, s2, .val (.tuple (ss.map sp)), .val (.str (PyData.tuple (ss.map sp)).shown), .val .none, .val (.bool false), s7, s8, s9, .no] := by
      generalize (PyData.tuple (ss.map sp)).shown = SH at *
      generalize ss.map sp = SD at *
      unfold s5_law
      simp
    rw [seq_nx e3, seq_nx e4, seq_nx e5]
    exact e6
  · have b1 : b = true := hb.mpr ⟨gs, sn.s, sn.lg, dd⟩
    subst b1
    have fx72 : ∀ q ∈ as, Fx 72 60000 q := fun q hq => ((fx q hq).fine 12 (by decide)).mono (by decide)
    have xa := xp_of (as := as.map fr) (fun a ha => by
      obtain ⟨q, hq, rfl⟩ := List.mem_map.mp ha
      exact it_fr ((fx72 q hq).mono (by decide))) (by rw [List.length_map, sn.la]; omega)
    have xg := xp_of (as := gs.map PyData.int) (fun a ha => by
      obtain ⟨g, hg, rfl⟩ := List.mem_map.mp ha
      exact it_int (by rcases sn.s g hg with rfl | rfl <;> decide)) (by rw [List.length_map, sn.lg]; omega)
    have tf := tell_two xa.1 xg.1
    have gd : Gd (.tuple [.tuple (as.map fr), .tuple (gs.map .int)]) := (th_tup (xs := [.tuple (as.map fr), .tuple (gs.map .int)]) (fun z hz => by
      simp only [List.mem_cons, List.not_mem_nil, or_false] at hz
      rcases hz with rfl | rfl
      · exact xa.1
      · exact xg.1) (by show 2 ≤ 3; decide)).1.g
    have lw := law_signing_any S gd
    have sb : sigB ss (.tuple [.tuple (as.map fr), .tuple (gs.map .int)]) = true := sgB_of sn
    rw [sb] at lw
    have ct := closes_sgn S sn
    rw [ct] at cl
    have al := alike_ok tf
    have al2 := alike_ok (tell_bool true)
    have sg : sgD gs = .tuple (gs.map .int) := rfl
    rw [sg] at e
    refine ⟨as, gs, ys, .tuple [.tuple (as.map fr), .tuple (gs.map .int)], true, .none, ?_, B, sn.la, sn.lg, fx72, sn.s⟩
    rw [sg]
    have di : dIsnt (.tuple [.tuple (as.map fr), .tuple (gs.map .int)]) .none = some (.val (.bool true)) := rfl
    have db : dNe (.bool true) (.bool true) = some (.val (.bool false)) := by
      rw [dNe]
      · rw [if_pos ⟨shaped_bool true, shaped_bool true⟩]
        simp [PyData.eqv]
      · intro _ _ h; cases h
    generalize hFD : PyData.tuple [.tuple (as.map fr), .tuple (gs.map .int)] = FD at *
    have e3 : s3_law 0 [s0, .own false ys, s2, .val (.tuple (ss.map sp)), s4, s5, s6, s7, s8, s9, .no] = .ok .nx [s0, .own false ys, s2, .val (.tuple (ss.map sp)), .val (.str (PyData.tuple (ss.map sp)).shown), .val FD, .val (.bool true), s7, s8, s9, .no] := by
      generalize (PyData.tuple (ss.map sp)).shown = SH at *
      generalize ss.map sp = SD at *
      unfold s3_law
      simp [rp, e, eb]
    have e4 : s4_law 0 [s0, .own false ys, s2, .val (.tuple (ss.map sp)), .val (.str (PyData.tuple (ss.map sp)).shown), .val FD, .val (.bool true), s7, s8, s9, .no] = .ok .nx [s0, .own false ys, s2, .val (.tuple (ss.map sp)), .val (.str (PyData.tuple (ss.map sp)).shown), .val FD, .val (.bool true), s7, s8, s9, .no] := by
      generalize (PyData.tuple (ss.map sp)).shown = SH at *
      generalize ss.map sp = SD at *
      unfold s4_law
      simp [di, db, e, agsOf, agOf, al, lendR, scal0]
    have e5 : s5_law 0 [s0, .own false ys, s2, .val (.tuple (ss.map sp)), .val (.str (PyData.tuple (ss.map sp)).shown), .val FD, .val (.bool true), s7, s8, s9, .no] = .ok .nx [s0, .own false ys, s2, .val (.tuple (ss.map sp)), .val (.str (PyData.tuple (ss.map sp)).shown), .val FD, .val (.bool true), s7, s8, s9, .no] := by
      generalize (PyData.tuple (ss.map sp)).shown = SH at *
      generalize ss.map sp = SD at *
      unfold s5_law
      simp [lw, cl, agsOf, agOf, al2, lendR, scal0]
    have e6 : s6_law 0 [s0, .own false ys, s2, .val (.tuple (ss.map sp)), .val (.str (PyData.tuple (ss.map sp)).shown), .val FD, .val (.bool true), s7, s8, s9, .no] = .ok .nx [s0, .own false ys, s2, .val (.tuple (ss.map sp)), .val (.str (PyData.tuple (ss.map sp)).shown), .val FD, .val (.bool true), .val FD, s8, s9, .no] := by
      generalize (PyData.tuple (ss.map sp)).shown = SH at *
      generalize ss.map sp = SD at *
      unfold s6_law
      simp
    rw [seq_nx e3, seq_nx e4, seq_nx e5]
    exact e6
def TuI (_ : List D) (e : En) : Prop := ∃ (ys : List D) (s0 s2 s3 s4 s5 s6 s7 s8 s9 : Sl), e = [s0, .own false ys, s2, s3, s4, s5, s6, s7, s8, s9, .no] ∧ BagOk ys
theorem turn_ok {ys : List D} (B : BagOk ys) (s0 s2 s3 s4 s5 s6 s7 s8 s9 : Sl) : ∃ e2, b2_law 0 [s0, .own false ys, s2, s3, s4, s5, s6, s7, s8, s9, .no] = .ok .nx e2 ∧ TuI [] e2 := by
  obtain ⟨ss0, y1, e1, B1, S0⟩ := s1_ok B s0 s2 s3 s4 s5 s6 s7 s8 s9
  obtain ⟨ss, y2, e2, B2, S⟩ := s2_ok S0 B1 s0 s2 s4 s5 s6 s7 s8 s9
  obtain ⟨qs, gs, y3, d5, due, -, e3, B3, lq, lg, fq, pm⟩ := base_ok S B2 s0 s2 s4 s5 s6 s7 s8 s9
  obtain ⟨ds, y4, e4, B4, th⟩ := near_ok S B3 lq lg fq pm
  have rp := rep_of (tq_spans S).2
  obtain ⟨e', lp, a8, a9, rfl, -⟩ := for_each (pat := pNm 8) (b := b1_law 0) id (fun xs e => ∃ a8 a9 : Sl, e = [s0, .own false y4, s2, .val (.tuple (ss.map sp)), .val (.str (PyData.tuple (ss.map sp)).shown), .val d5, .val (.bool due), .val (.tuple [.tuple (qs.map fr), sgD gs]), a8, a9, .no] ∧ ∀ x ∈ xs, Th x) (fun x xs e ⟨a8, a9, he, g⟩ => by
    subst he
    exact ⟨_, _, rfl, thing_ok S (g x (List.mem_cons_self ..)) s0 (.own false y4) s2 _ _ _ _ a9, _, _, rfl, fun z hz => g z (List.mem_cons_of_mem _ hz)⟩) ds [s0, .own false y4, s2, .val (.tuple (ss.map sp)), .val (.str (PyData.tuple (ss.map sp)).shown), .val d5, .val (.bool due), .val (.tuple [.tuple (qs.map fr), sgD gs]), s8, s9, .no] ⟨s8, s9, rfl, th⟩
  rw [List.map_id] at lp
  have e7 : s7_law 0 [s0, .own false y3, s2, .val (.tuple (ss.map sp)), .val (.str (PyData.tuple (ss.map sp)).shown), .val d5, .val (.bool due), .val (.tuple [.tuple (qs.map fr), sgD gs]), s8, s9, .no] = .ok .nx [s0, .own false y4, s2, .val (.tuple (ss.map sp)), .val (.str (PyData.tuple (ss.map sp)).shown), .val d5, .val (.bool due), .val (.tuple [.tuple (qs.map fr), sgD gs]), a8, a9, .no] := by
    generalize (PyData.tuple (ss.map sp)).shown = SH at *
    generalize PyData.tuple [.tuple (qs.map fr), sgD gs] = BD at *
    generalize ss.map sp = SD at *
    unfold s7_law
    simp [e4, seqOf, lp]
  have e8 : s8_law 0 [s0, .own false y4, s2, .val (.tuple (ss.map sp)), .val (.str (PyData.tuple (ss.map sp)).shown), .val d5, .val (.bool due), .val (.tuple [.tuple (qs.map fr), sgD gs]), a8, a9, .no] = .ok .nx [s0, .own false y4, s2, .val (.tuple (ss.map sp)), .val (.str (PyData.tuple (ss.map sp)).shown), .val d5, .val (.bool due), .val (.tuple [.tuple (qs.map fr), sgD gs]), a8, a9, .no] := by
    generalize (PyData.tuple (ss.map sp)).shown = SH at *
    generalize PyData.tuple [.tuple (qs.map fr), sgD gs] = BD at *
    generalize ss.map sp = SD at *
    unfold s8_law
    simp [rp]
  have ch : b2_law 0 [s0, .own false ys, s2, s3, s4, s5, s6, s7, s8, s9, .no] = .ok .nx [s0, .own false y4, s2, .val (.tuple (ss.map sp)), .val (.str (PyData.tuple (ss.map sp)).shown), .val d5, .val (.bool due), .val (.tuple [.tuple (qs.map fr), sgD gs]), a8, a9, .no] := by
    have as4 : ∀ (a b c d r : MS) (e : En), sSeq a (sSeq b (sSeq c (sSeq d r))) e = sSeq (sSeq a (sSeq b (sSeq c d))) r e := fun a b c d r e => by
      have as2 : ∀ (a b r : MS), sSeq a (sSeq b r) = sSeq (sSeq a b) r := fun a b r => by
        funext e
        unfold sSeq
        cases a e with
        | ok f e1 => cases f <;> rfl
        | exc c fs e1 => rfl
        | bad => rfl
      rw [as2 c d r, as2 b _ r, as2 a _ r]
    unfold b2_law
    rw [seq_nx e1, seq_nx e2, as4, seq_nx e3, seq_nx e7]
    exact e8
  exact ⟨_, ch, y4, s0, s2, _, _, _, _, _, a8, a9, rfl, B4⟩
theorem answers (ns : List Int) (hn : ns.length ≤ 63) : m_law [.list (ns.map .int)] = some (.ret (.val (.bool true))) := by
  obtain ⟨ys, hb, B⟩ := bag_ok hn
  obtain ⟨e', w, y2, a0, a2, a3, a4, a5, a6, a7, a8, a9, rfl, _⟩ := for_inv (pat := pNm 2) (b := b2_law 0) TuI (fun d ds e ⟨ys, a0, a2, a3, a4, a5, a6, a7, a8, a9, he, B⟩ => by
    subst he
    obtain ⟨e2, h1, h2⟩ := turn_ok B a0 (.val d) a3 a4 a5 a6 a7 a8 a9
    exact ⟨_, e2, rfl, h1, h2⟩) (rngD 0 4) _ ⟨ys, .val (.list (ns.map .int)), .no, .no, .no, .no, .no, .no, .no, .no, rfl, B⟩
  have rng : ∀ e, rngR [.int 4] e = .ok (rngD 0 4) e := rng_nat (n := 4) (by decide)
  simp only [m_law, runM, g_law, List.length_cons, List.length_nil, if_true]
  simp [startE, hb, rng, w]
end G74

namespace G74
open L2 PySem.Spec PySem PyProof.Rows Mv Sh
set_option maxHeartbeats 0 in
theorem ends {l : PySem.W.OpenLaw} {w : World} {K : PySem.W.Frag} {h : Heap} {mg : Str → Option Value} {fa : Addr} (X : K.In h) (G : h.Ns mainGlobals mg) (hfa : mg "law" = some (.ref fa)) (nl : noLists K = true)
    (a0 : At K "common" S_common)
    (a1 : At K "is_integer" S_is_integer)
    (a2 : At K "is_tuple_of" S_is_tuple_of)
    (a3 : At K "is_fraction" S_is_fraction)
    (a4 : At K "reduced" S_reduced)
    (a5 : At K "added" S_added)
    (a6 : At K "less" S_less)
    (a7 : At K "compared" S_compared)
    (a8 : At K "least_of" S_least_of)
    (a9 : At K "sign_patterns" S_sign_patterns)
    (a10 : At K "signed_sum" S_signed_sum)
    (a11 : At K "raised" S_raised)
    (a12 : At K "signing" S_signing)
    (a13 : At K "is_signing" S_is_signing)
    (a14 : At K "closes" S_closes)
    (a15 : At K "_law_bag" S__law_bag)
    (a16 : At K "_law_take" S__law_take)
    (a17 : At K "_law_one" S__law_one)
    (a18 : At K "_law_alike" S__law_alike)
    (a19 : At K "_law_shared" S__law_shared)
    (a20 : At K "_law_ratio" S__law_ratio)
    (a21 : At K "_law_plus" S__law_plus)
    (a22 : At K "_law_minus" S__law_minus)
    (a23 : At K "_law_by" S__law_by)
    (a24 : At K "_law_below" S__law_below)
    (a25 : At K "_law_integer" S__law_integer)
    (a26 : At K "_law_is_fraction" S__law_is_fraction)
    (a27 : At K "_law_bounds" S__law_bounds)
    (a28 : At K "_law_spans" S__law_spans)
    (a29 : At K "_law_within" S__law_within)
    (a30 : At K "_law_mean" S__law_mean)
    (a31 : At K "_law_is_signing" S__law_is_signing)
    (a32 : At K "_law_some_signs" S__law_some_signs)
    (a33 : At K "_law_near" S__law_near)
    (a34 : At K "law" S_law)
    (gu0 : GU K "ZERO" (.tuple [(.int 0), (.int 1)]))
    (gu1 : GU K "NOTHING" (.tuple [(.int 0), (.int 1)]))
    (bt : Blt mg) : noLists K = true ∧ ∃ fd : FuncData, (∀ (s : Shared) (v : Value), BindsTo s fd ⟨[v], []⟩ [("script", v)]) ∧ ∀ base : Heap, K.In base → base.Ns mainGlobals mg → FnG l.prog w K mg base 7 fa fd ["script"] (spV K mg m_law) := by
  have k_ZERO := gu0.gc X G
  have k_NOTHING := gu1.gc X G
  obtain ⟨f0, fd0, e0, F0, _⟩ := a0.ex
  have h0 := PySem.W.mg_of X G e0
  have b0 := F0.binds (ps := ["one", "other"]) fun _ _ _ _ _ _ us hl => match us, hl with | [_, _], _ => rfl
  have c_common := fun base : Heap => w_common (P := l.prog) (w := w) (base := base) bt F0 b0 h0
  obtain ⟨f1, fd1, e1, F1, _⟩ := a1.ex
  have h1 := PySem.W.mg_of X G e1
  have b1 := F1.binds (ps := ["thing"]) fun _ _ _ _ _ _ us hl => match us, hl with | [_], _ => rfl
  have c_is_integer := fun base : Heap => w_is_integer (P := l.prog) (w := w) (base := base) bt F1 b1 h1
  obtain ⟨f2, fd2, e2, F2, _⟩ := a2.ex
  have h2 := PySem.W.mg_of X G e2
  have b2 := F2.binds (ps := ["thing", "size"]) fun _ _ _ _ _ _ us hl => match us, hl with | [_, _], _ => rfl
  have c_is_tuple_of := fun base : Heap => w_is_tuple_of (P := l.prog) (w := w) (base := base) bt F2 b2 h2
  obtain ⟨f3, fd3, e3, F3, _⟩ := a3.ex
  have h3 := PySem.W.mg_of X G e3
  have b3 := F3.binds (ps := ["thing"]) fun _ _ _ _ _ _ us hl => match us, hl with | [_], _ => rfl
  have c_is_fraction := fun base : Heap => w_is_fraction (P := l.prog) (w := w) (base := base) bt F3 b3 h3 (c_is_tuple_of base) (c_is_integer base) (c_common base)
  obtain ⟨f4, fd4, e4, F4, _⟩ := a4.ex
  have h4 := PySem.W.mg_of X G e4
  have b4 := F4.binds (ps := ["num", "den"]) fun _ _ _ _ _ _ us hl => match us, hl with | [_, _], _ => rfl
  have c_reduced := fun base : Heap => w_reduced (P := l.prog) (w := w) (base := base) bt F4 b4 h4 (c_common base)
  obtain ⟨f5, fd5, e5, F5, _⟩ := a5.ex
  have h5 := PySem.W.mg_of X G e5
  have b5 := F5.binds (ps := ["parts"]) fun _ _ _ _ _ _ us hl => match us, hl with | [_], _ => rfl
  have c_added := fun base : Heap => w_added (P := l.prog) (w := w) (base := base) bt F5 b5 h5 (c_reduced base) k_ZERO
  obtain ⟨f6, fd6, e6, F6, _⟩ := a6.ex
  have h6 := PySem.W.mg_of X G e6
  have b6 := F6.binds (ps := ["one", "other"]) fun _ _ _ _ _ _ us hl => match us, hl with | [_, _], _ => rfl
  have c_less := fun base : Heap => w_less (P := l.prog) (w := w) (base := base) bt F6 b6 h6 (c_reduced base)
  obtain ⟨f7, fd7, e7, F7, _⟩ := a7.ex
  have h7 := PySem.W.mg_of X G e7
  have b7 := F7.binds (ps := ["one", "other"]) fun _ _ _ _ _ _ us hl => match us, hl with | [_, _], _ => rfl
  have c_compared := fun base : Heap => w_compared (P := l.prog) (w := w) (base := base) bt F7 b7 h7
  obtain ⟨f8, fd8, e8, F8, _⟩ := a8.ex
  have h8 := PySem.W.mg_of X G e8
  have b8 := F8.binds (ps := ["parts"]) fun _ _ _ _ _ _ us hl => match us, hl with | [_], _ => rfl
  have c_least_of := fun base : Heap => w_least_of (P := l.prog) (w := w) (base := base) bt F8 b8 h8 (c_compared base)
  obtain ⟨f9, fd9, e9, F9, _⟩ := a9.ex
  have h9 := PySem.W.mg_of X G e9
  have b9 := F9.binds (ps := ["many"]) fun _ _ _ _ _ _ us hl => match us, hl with | [_], _ => rfl
  have c_sign_patterns := fun base : Heap => w_sign_patterns (P := l.prog) (w := w) (base := base) bt F9 b9 h9
  obtain ⟨f10, fd10, e10, F10, _⟩ := a10.ex
  have h10 := PySem.W.mg_of X G e10
  have b10 := F10.binds (ps := ["amounts", "signs"]) fun _ _ _ _ _ _ us hl => match us, hl with | [_, _], _ => rfl
  have c_signed_sum := fun base : Heap => w_signed_sum (P := l.prog) (w := w) (base := base) bt F10 b10 h10 (c_added base)
  obtain ⟨f11, fd11, e11, F11, _⟩ := a11.ex
  have h11 := PySem.W.mg_of X G e11
  have b11 := F11.binds (ps := ["spans", "signs"]) fun _ _ _ _ _ _ us hl => match us, hl with | [_, _], _ => rfl
  have c_raised := fun base : Heap => w_raised (P := l.prog) (w := w) (base := base) bt F11 b11 h11 (c_less base) (c_signed_sum base) (c_compared base) (c_least_of base) (c_added base) k_NOTHING
  obtain ⟨f12, fd12, e12, F12, _⟩ := a12.ex
  have h12 := PySem.W.mg_of X G e12
  have b12 := F12.binds (ps := ["spans"]) fun _ _ _ _ _ _ us hl => match us, hl with | [_], _ => rfl
  have c_signing := fun base : Heap => w_signing (P := l.prog) (w := w) (base := base) bt F12 b12 h12 (c_sign_patterns base) (c_raised base)
  obtain ⟨f13, fd13, e13, F13, _⟩ := a13.ex
  have h13 := PySem.W.mg_of X G e13
  have b13 := F13.binds (ps := ["spans", "thing"]) fun _ _ _ _ _ _ us hl => match us, hl with | [_, _], _ => rfl
  have c_is_signing := fun base : Heap => w_is_signing (P := l.prog) (w := w) (base := base) bt F13 b13 h13 (c_signed_sum base) (c_is_fraction base) (c_compared base) (c_is_integer base) k_NOTHING
  obtain ⟨f14, fd14, e14, F14, _⟩ := a14.ex
  have h14 := PySem.W.mg_of X G e14
  have b14 := F14.binds (ps := ["spans"]) fun _ _ _ _ _ _ us hl => match us, hl with | [_], _ => rfl
  have c_closes := fun base : Heap => w_closes (P := l.prog) (w := w) (base := base) bt F14 b14 h14 (c_added base) (c_compared base) (c_less base)
  obtain ⟨f15, fd15, e15, F15, _⟩ := a15.ex
  have h15 := PySem.W.mg_of X G e15
  have b15 := F15.binds (ps := ["script"]) fun _ _ _ _ _ _ us hl => match us, hl with | [_], _ => rfl
  have c__law_bag := fun base : Heap => w__law_bag (P := l.prog) (w := w) (base := base) bt F15 b15 h15
  obtain ⟨f16, fd16, e16, F16, _⟩ := a16.ex
  have h16 := PySem.W.mg_of X G e16
  have b16 := F16.binds (ps := ["bag", "many"]) fun _ _ _ _ _ _ us hl => match us, hl with | [_, _], _ => rfl
  have c__law_take := fun base : Heap => w__law_take (P := l.prog) (w := w) (base := base) bt F16 b16 h16
  obtain ⟨f17, fd17, e17, F17, _⟩ := a17.ex
  have h17 := PySem.W.mg_of X G e17
  have b17 := F17.binds (ps := ["bag", "things"]) fun _ _ _ _ _ _ us hl => match us, hl with | [_, _], _ => rfl
  have c__law_one := fun base : Heap => w__law_one (P := l.prog) (w := w) (base := base) bt F17 b17 h17 (c__law_take base)
  obtain ⟨f18, fd18, e18, F18, _⟩ := a18.ex
  have h18 := PySem.W.mg_of X G e18
  have b18 := F18.binds (ps := ["found", "due"]) fun _ _ _ _ _ _ us hl => match us, hl with | [_, _], _ => rfl
  have c__law_alike := fun base : Heap => w__law_alike (P := l.prog) (w := w) (base := base) bt F18 b18 h18
  obtain ⟨f19, fd19, e19, F19, _⟩ := a19.ex
  have h19 := PySem.W.mg_of X G e19
  have b19 := F19.binds (ps := ["one", "other"]) fun _ _ _ _ _ _ us hl => match us, hl with | [_, _], _ => rfl
  have c__law_shared := fun base : Heap => w__law_shared (P := l.prog) (w := w) (base := base) bt F19 b19 h19
  obtain ⟨f20, fd20, e20, F20, _⟩ := a20.ex
  have h20 := PySem.W.mg_of X G e20
  have b20 := F20.binds (ps := ["num", "den"]) fun _ _ _ _ _ _ us hl => match us, hl with | [_, _], _ => rfl
  have c__law_ratio := fun base : Heap => w__law_ratio (P := l.prog) (w := w) (base := base) bt F20 b20 h20 (c__law_shared base)
  obtain ⟨f21, fd21, e21, F21, _⟩ := a21.ex
  have h21 := PySem.W.mg_of X G e21
  have b21 := F21.binds (ps := ["parts"]) fun _ _ _ _ _ _ us hl => match us, hl with | [_], _ => rfl
  have c__law_plus := fun base : Heap => w__law_plus (P := l.prog) (w := w) (base := base) bt F21 b21 h21 (c__law_ratio base)
  obtain ⟨f22, fd22, e22, F22, _⟩ := a22.ex
  have h22 := PySem.W.mg_of X G e22
  have b22 := F22.binds (ps := ["one", "other"]) fun _ _ _ _ _ _ us hl => match us, hl with | [_, _], _ => rfl
  have c__law_minus := fun base : Heap => w__law_minus (P := l.prog) (w := w) (base := base) bt F22 b22 h22 (c__law_ratio base)
  obtain ⟨f23, fd23, e23, F23, _⟩ := a23.ex
  have h23 := PySem.W.mg_of X G e23
  have b23 := F23.binds (ps := ["one", "other"]) fun _ _ _ _ _ _ us hl => match us, hl with | [_, _], _ => rfl
  have c__law_by := fun base : Heap => w__law_by (P := l.prog) (w := w) (base := base) bt F23 b23 h23 (c__law_ratio base)
  obtain ⟨f24, fd24, e24, F24, _⟩ := a24.ex
  have h24 := PySem.W.mg_of X G e24
  have b24 := F24.binds (ps := ["one", "other"]) fun _ _ _ _ _ _ us hl => match us, hl with | [_, _], _ => rfl
  have c__law_below := fun base : Heap => w__law_below (P := l.prog) (w := w) (base := base) bt F24 b24 h24
  obtain ⟨f25, fd25, e25, F25, _⟩ := a25.ex
  have h25 := PySem.W.mg_of X G e25
  have b25 := F25.binds (ps := ["thing"]) fun _ _ _ _ _ _ us hl => match us, hl with | [_], _ => rfl
  have c__law_integer := fun base : Heap => w__law_integer (P := l.prog) (w := w) (base := base) bt F25 b25 h25
  obtain ⟨f26, fd26, e26, F26, _⟩ := a26.ex
  have h26 := PySem.W.mg_of X G e26
  have b26 := F26.binds (ps := ["thing"]) fun _ _ _ _ _ _ us hl => match us, hl with | [_], _ => rfl
  have c__law_is_fraction := fun base : Heap => w__law_is_fraction (P := l.prog) (w := w) (base := base) bt F26 b26 h26 (c__law_integer base) (c__law_shared base)
  obtain ⟨f27, fd27, e27, F27, _⟩ := a27.ex
  have h27 := PySem.W.mg_of X G e27
  have b27 := F27.binds (ps := ["bag", "most"]) fun _ _ _ _ _ _ us hl => match us, hl with | [_, _], _ => rfl
  have c__law_bounds := fun base : Heap => w__law_bounds (P := l.prog) (w := w) (base := base) bt F27 b27 h27 (c__law_one base) (c__law_take base)
  obtain ⟨f28, fd28, e28, F28, _⟩ := a28.ex
  have h28 := PySem.W.mg_of X G e28
  have b28 := F28.binds (ps := ["bag", "many", "most"]) fun _ _ _ _ _ _ us hl => match us, hl with | [_, _, _], _ => rfl
  have c__law_spans := fun base : Heap => w__law_spans (P := l.prog) (w := w) (base := base) bt F28 b28 h28 (c__law_one base) (c__law_bounds base) (c__law_ratio base)
  obtain ⟨f29, fd29, e29, F29, _⟩ := a29.ex
  have h29 := PySem.W.mg_of X G e29
  have b29 := F29.binds (ps := ["span", "size"]) fun _ _ _ _ _ _ us hl => match us, hl with | [_, _], _ => rfl
  have c__law_within := fun base : Heap => w__law_within (P := l.prog) (w := w) (base := base) bt F29 b29 h29 (c__law_below base)
  obtain ⟨f30, fd30, e30, F30, _⟩ := a30.ex
  have h30 := PySem.W.mg_of X G e30
  have b30 := F30.binds (ps := ["bag", "span"]) fun _ _ _ _ _ _ us hl => match us, hl with | [_, _], _ => rfl
  have c__law_mean := fun base : Heap => w__law_mean (P := l.prog) (w := w) (base := base) bt F30 b30 h30 (c__law_one base) (c__law_plus base) (c__law_by base) (c__law_minus base)
  obtain ⟨f31, fd31, e31, F31, _⟩ := a31.ex
  have h31 := PySem.W.mg_of X G e31
  have b31 := F31.binds (ps := ["spans", "thing"]) fun _ _ _ _ _ _ us hl => match us, hl with | [_, _], _ => rfl
  have c__law_is_signing := fun base : Heap => w__law_is_signing (P := l.prog) (w := w) (base := base) bt F31 b31 h31 (c__law_plus base) (c__law_by base) (c__law_integer base) (c__law_is_fraction base) (c__law_within base)
  obtain ⟨f32, fd32, e32, F32, _⟩ := a32.ex
  have h32 := PySem.W.mg_of X G e32
  have b32 := F32.binds (ps := ["spans"]) fun _ _ _ _ _ _ us hl => match us, hl with | [_], _ => rfl
  have c__law_some_signs := fun base : Heap => w__law_some_signs (P := l.prog) (w := w) (base := base) bt F32 b32 h32 (c__law_plus base) (c__law_minus base)
  obtain ⟨f33, fd33, e33, F33, _⟩ := a33.ex
  have h33 := PySem.W.mg_of X G e33
  have b33 := F33.binds (ps := ["bag", "spans", "base"]) fun _ _ _ _ _ _ us hl => match us, hl with | [_, _, _], _ => rfl
  have c__law_near := fun base : Heap => w__law_near (P := l.prog) (w := w) (base := base) bt F33 b33 h33 (c__law_take base) (c__law_plus base)
  obtain ⟨f34, fd34, e34, F34, _⟩ := a34.ex
  have h34 := PySem.W.mg_of X G e34
  have b34 := F34.binds (ps := ["script"]) fun _ _ _ _ _ _ us hl => match us, hl with | [_], _ => rfl
  have e := hfa.symm.trans h34
  cases e
  have F := F34
  obtain ⟨oc, od, kV, doc, pm, an,
                                                                                                                cdv, ct, osl, rfl, lk, hcd⟩ := F.ex
  refine ⟨nl, PySem.W.fnOf "law" "law" (defArgs S_law) (defBody S_law) (defScope S_law) .none kV doc pm an cdv ct, fun s v => .of_eq rfl, fun base _ _ => ?_⟩
  exact w_law (P := l.prog) (w := w) (base := base) bt F34 (c__law_bag base) (c__law_spans base) (c__law_near base) (c__law_one base) (c__law_take base) (c_signing base) (c__law_some_signs base) (c__law_alike base) (c__law_is_signing base) (c_closes base) (c__law_mean base) (c_is_signing base)
end G74
open PySem PySem.W PyProof.Rows Mv
set_option maxHeartbeats 0 in
theorem PySem.Challenge.cw_anglesuntold_k74_spans_that_close_by_sig_holds : PySem.Challenge.rw_anglesuntold_k74_spans_that_close_by_sig.Holds := by
  w_on; o_law; k_head;
                                                                                                                (case hw => w_witness2)
  k_fill
  refine law_walk (l := PySem.Challenge.rw_anglesuntold_k74_spans_that_close_by_sig) (n := 63) (k := 7) (x := "script") (m := G74.m_law) rfl (by decide) rfl ⟨⟨rfl, by decide, by decide⟩, rfl⟩ (fun w h Y => PySem.W.kIn_of Y) ?F G74.answers
  case F =>
    intro w mg fa h KX G hmg
    refine' G74.ends KX G hmg ?nl ?a0 ?a1 ?a2 ?a3 ?a4 ?a5 ?a6 ?a7 ?a8 ?a9 ?a10 ?a11 ?a12 ?a13 ?a14 ?a15 ?a16 ?a17 ?a18 ?a19 ?a20 ?a21 ?a22 ?a23 ?a24 ?a25 ?a26 ?a27 ?a28 ?a29 ?a30 ?a31 ?a32 ?a33 ?a34 ?gu0 ?gu1 (bt_mk KX G ?z)
    (case nl => with_unfolding_all exact rfl)
    (case z => simp only [List.forall_mem_cons]; refine' ⟨?z_len, ?z_abs, ?z_repr, ?z_all, ?z_sum, ?z_max, ?z_min, ?z_sorted, ?z_int, ?z_bool, ?z_str, ?z_tuple, ?z_list, ?z_dict, ?z_set, ?z_isinstance, ?z_range, ?z_enumerate, ?z_zip, ?zn⟩; (case z_len => k_is); (case z_abs => k_is); (case z_repr => k_is); (case z_all => k_is); (case z_sum => k_is); (case z_max => k_is); (case z_min => k_is); (case z_sorted => k_is); (case z_int => k_is); (case z_bool => k_is); (case z_str => k_is); (case z_tuple => k_is); (case z_list => k_is); (case z_dict => k_is); (case z_set => k_is); (case z_isinstance => k_is); (case z_range => k_is); (case z_enumerate => k_is); (case z_zip => k_is); (case zn => exact fun _ h => (List.not_mem_nil h).elim))
    (case a0 => refine' at_mk ?a ?l ?c ?k; (case a => k_is); (case l => k_is); (case c => k_is); (case k => k_is))
    (case a1 => refine' at_mk ?a ?l ?c ?k; (case a => k_is); (case l => k_is); (case c => k_is); (case k => k_is))
    (case a2 => refine' at_mk ?a ?l ?c ?k; (case a => k_is); (case l => k_is); (case c => k_is); (case k => k_is))
    (case a3 => refine' at_mk ?a ?l ?c ?k; (case a => k_is); (case l => k_is); (case c => k_is); (case k => k_is))
    (case a4 => refine' at_mk ?a ?l ?c ?k; (case a => k_is); (case l => k_is); (case c => k_is); (case k => k_is))
    (case a5 => refine' at_mk ?a ?l ?c ?k; (case a => k_is); (case l => k_is); (case c => k_is); (case k => k_is))
    (case a6 => refine' at_mk ?a ?l ?c ?k; (case a => k_is); (case l => k_is); (case c => k_is); (case k => k_is))
    (case a7 => refine' at_mk ?a ?l ?c ?k; (case a => k_is); (case l => k_is); (case c => k_is); (case k => k_is))
    (case a8 => refine' at_mk ?a ?l ?c ?k; (case a => k_is); (case l => k_is); (case c => k_is); (case k => k_is))
    (case a9 => refine' at_mk ?a ?l ?c ?k; (case a => k_is); (case l => k_is); (case c => k_is); (case k => k_is))
    (case a10 => refine' at_mk ?a ?l ?c ?k; (case a => k_is); (case l => k_is); (case c => k_is); (case k => k_is))
    (case a11 => refine' at_mk ?a ?l ?c ?k; (case a => k_is); (case l => k_is); (case c => k_is); (case k => k_is))
    (case a12 => refine' at_mk ?a ?l ?c ?k; (case a => k_is); (case l => k_is); (case c => k_is); (case k => k_is))
    (case a13 => refine' at_mk ?a ?l ?c ?k; (case a => k_is); (case l => k_is); (case c => k_is); (case k => k_is))
    (case a14 => refine' at_mk ?a ?l ?c ?k; (case a => k_is); (case l => k_is); (case c => k_is); (case k => k_is))
    (case a15 => refine' at_mk ?a ?l ?c ?k; (case a => k_is); (case l => k_is); (case c => k_is); (case k => k_is))
    (case a16 => refine' at_mk ?a ?l ?c ?k; (case a => k_is); (case l => k_is); (case c => k_is); (case k => k_is))
    (case a17 => refine' at_mk ?a ?l ?c ?k; (case a => k_is); (case l => k_is); (case c => k_is); (case k => k_is))
    (case a18 => refine' at_mk ?a ?l ?c ?k; (case a => k_is); (case l => k_is); (case c => k_is); (case k => k_is))
    (case a19 => refine' at_mk ?a ?l ?c ?k; (case a => k_is); (case l => k_is); (case c => k_is); (case k => k_is))
    (case a20 => refine' at_mk ?a ?l ?c ?k; (case a => k_is); (case l => k_is); (case c => k_is); (case k => k_is))
    (case a21 => refine' at_mk ?a ?l ?c ?k; (case a => k_is); (case l => k_is); (case c => k_is); (case k => k_is))
    (case a22 => refine' at_mk ?a ?l ?c ?k; (case a => k_is); (case l => k_is); (case c => k_is); (case k => k_is))
    (case a23 => refine' at_mk ?a ?l ?c ?k; (case a => k_is); (case l => k_is); (case c => k_is); (case k => k_is))
    (case a24 => refine' at_mk ?a ?l ?c ?k; (case a => k_is); (case l => k_is); (case c => k_is); (case k => k_is))
    (case a25 => refine' at_mk ?a ?l ?c ?k; (case a => k_is); (case l => k_is); (case c => k_is); (case k => k_is))
    (case a26 => refine' at_mk ?a ?l ?c ?k; (case a => k_is); (case l => k_is); (case c => k_is); (case k => k_is))
    (case a27 => refine' at_mk ?a ?l ?c ?k; (case a => k_is); (case l => k_is); (case c => k_is); (case k => k_is))
    (case a28 => refine' at_mk ?a ?l ?c ?k; (case a => k_is); (case l => k_is); (case c => k_is); (case k => k_is))
    (case a29 => refine' at_mk ?a ?l ?c ?k; (case a => k_is); (case l => k_is); (case c => k_is); (case k => k_is))
    (case a30 => refine' at_mk ?a ?l ?c ?k; (case a => k_is); (case l => k_is); (case c => k_is); (case k => k_is))
    (case a31 => refine' at_mk ?a ?l ?c ?k; (case a => k_is); (case l => k_is); (case c => k_is); (case k => k_is))
    (case a32 => refine' at_mk ?a ?l ?c ?k; (case a => k_is); (case l => k_is); (case c => k_is); (case k => k_is))
    (case a33 => refine' at_mk ?a ?l ?c ?k; (case a => k_is); (case l => k_is); (case c => k_is); (case k => k_is))
    (case a34 => refine' at_mk ?a ?l ?c ?k; (case a => k_is); (case l => k_is); (case c => k_is); (case k => k_is))
    (case gu0 => exact gu_mk (by k_is) (gv_tup (by k_is) rfl rfl (by decide) (gvs_cons (gv_int _ _) (gvs_cons (gv_int _ _) (gvs_nil)))))
    (case gu1 => exact gu_mk (by k_is) (gv_tup (by k_is) rfl rfl (by decide) (gvs_cons (gv_int _ _) (gvs_cons (gv_int _ _) (gvs_nil)))))

