import PyProof.Rows.All
import Wide.All
import OpenK.AllK
import Wide.FinOn
import PySem.Challenge.RW_anglesuntold_k57_rings_laid_out
import HandS.ForMost
import HandS.Wide
import HandS.WideBits
import HandS.IsInst
import HandS.Walk
import HandS.Exc
import HandS.ExcCtx
import HandS.Deep
import HandS.Slots
import HandS.SlotsOwn
import KE.KeyNested
import KE.GoesEnum
import KE.GoesMore
import HandS.ExcOwn
import HandS.WordsExc
import HandS.More
import HandS.TupAny
import HandS.TupMul
import HandS.Style
import HandS.NoneIn
import HandS.SortInts
import HandS.Text
import PyProof.ReprRoads
import PyProof.CallFns
import HandS.ExcIs
import HandS.Star
import HandS.Ends
import HandS.Flow
import HandS.Conv
import PyProof.AutoSeq1
import HandS.Small
import HandS.RaiseMore
import KE.SortData
import HandS.SetFor
import HandS.Strs
import PyProof.Rows.Digits
import PyProof.Rows.StrOr
import HandS.DictComp
import HandS.Defaults
import HandS.ReCall
import HandS.Iter
import KE.KExcStr
import PyProof.ReprDict
import HandS.ExcValue
import PyProof.ReprLen
set_option Elab.async false
set_option linter.all false
set_option maxRecDepth 100000
/-! Mv: a layer over HandS. Values are PyData; a state gives each slot a value (frozen) or an own list. -/
namespace Mv
open L2 PySem.Spec PySem PyProof.Rows

abbrev D := PyData
/-- what a slot holds: nothing, a value, or a list that this def alone may change (io: its caller's) -/
inductive Sl where
  | no
  | val (d : D)
  | own (io : Bool) (xs : List D)
abbrev En := List Sl
inductive R (α : Type) where
  | ok (a : α) (e : En)
  | exc (c : Str) (fs : List (Str × D)) (e : En)
  | bad
abbrev M (α : Type) := En → R α
def R.bind {α β : Type} : R α → (α → En → R β) → R β
  | .ok a e, f => f a e
  | .exc c fs e, _ => .exc c fs e
  | .bad, _ => .bad
@[simp] theorem R.bind_ok {α β : Type} (a : α) (e : En) (f : α → En → R β) : (R.ok a e).bind f = f a e := rfl
@[simp] theorem R.bind_exc {α β : Type} (c : Str) (fs) (e : En) (f : α → En → R β) : (R.exc (α := α) c fs e).bind f = .exc c fs e := rfl
@[simp] theorem R.bind_bad {α β : Type} (f : α → En → R β) : (R.bad (α := α)).bind f = .bad := rfl

def isOwn (en : En) (i : Nat) : Prop := ∃ b xs, en[i]? = some (.own b xs)

/-- F: what stands frozen at the entry; Kp: what is to be kept; Z: the addresses that are not new; io: old ones that may be own -/
structure Bs where
  F : Hp
  Kp : Hp
  Z : Addr → Prop
  io : Addr → Prop

/-- a key of a dict, as a value -/
def keyD : Key → D
  | .inl i => .int i
  | .inr x => .str x
def plainT : List String := ["tuple", "list", "int", "bool", "str"]
/-- a class with slots of that name -/
structure ObC (K : PySem.W.Frag) (nm : Str) (C : Addr) : Prop where
  cls : SlX.SCls K C
  isi : SlX.SIsi K C
  nm : PySem.W.nsIn K mainGlobals nm = some (some (.ref C))
  no : ∀ T ∈ plainT, PySem.W.kitOne K (.ref C) (.type T) = some false
/-! ### data at an address: lists stand tracked (or locked), tuples tracked or written -/
/-- of such a thing nothing is told: a dict whose keys are tuples, nested too -/
def opqD : D := .dict [(.list [], .none)]
/-- an exception of a class of the program, made of nothing -/
def excD (nm : Str) : D := .dict [(.none, .str nm)]
def xcO (C t a : Addr) : HO := .ext fun h => ∃ o vs, h.get? a = some o ∧ o.cls = .ref C ∧ o.dict = none ∧ o.data = .fields vs ∧ vs[0]? = some (.ref t)
structure XcC (K : PySem.W.Frag) (nm : Str) (C : Addr) : Prop where
  nm : (PySem.W.clsIn K C).map (·.name) = some nm
  rep : PySem.W.findIn K (.ref C) "__repr__" = some (some (.builtin "BaseException.__repr__"))
  sub : PySem.W.subIn K (.ref C) (.type "BaseException") = some true
  ga : PySem.W.findIn K (.ref C) "__getattribute__" = some
                                                                                                                (some (.builtin "BaseException.__getattribute__"))
  gt : PySem.W.findIn K (.ref C) "__getattr__" = some none
  hd :
                                                                                                                PySem.W.hasDictIn K C = true
  ca : PySem.W.findIn K (.ref C) "__class__" = some
                                                                                                                (some (.builtin "object.__class__"))
  cn : PySem.W.specialIn K (.builtin "object.__class__") "__get__" = some
                                                                                                                (some (.builtin "getset_descriptor.__get__"))
  ct : PySem.W.takesIn K
                                                                                                                (.builtin "object.__class__") = some true
  cm : PySem.W.mroIn K C
                                                                                                                (.type "object") = some true
  no : ∀ T ∈ plainT, PySem.W.kitOne K (.ref C) (.type T) = some false
def rawN (P : Program) (w : World) (a : Addr) (xs : List (NestedKey × Addr × Value)) : HO := .ext fun h => ∃ o es ep, h.get? a = some o ∧ o.ExactDict ∧ o.data = .dict es ep ∧ es.toList = xs.map (entryOfKey (nestedKind P w)) ∧ (xs.map (·.1)).Nodup
mutual
inductive Dp (K : PySem.W.Frag) (F : Hp) : V → D → Prop
  | non : Dp K F .non .none
  | bl (b : Bool) : Dp K F (.bl b) (.bool b)
  | int (i : Int) : Dp K F (.int i) (.int i)
  | str (x : Str) : Dp K F (.str x) (.str x)
  | lst {a : Addr} {xs : List V} {ds : List D} : Rd F a (.lst xs) → DpAll K F xs ds → Dp K F (.ref a) (.list ds)
  | tup {a : Addr} {xs : List V} {ds : List D} : SqT K F a xs → DpAll K F xs ds → Dp K F (.ref a) (.tuple ds)
  | dic {a : Addr} {ks : List (Key × V)} {ds : List (D × D)} : Rd F a (.dK ks) → DpKv K F ks ds → Dp K F (.ref a) (.dict ds)
  | dit {a : Addr} {ks : List (List Key × V)} {ds : List (D × D)} : Rd F a (.dT ks) → ks ≠ [] → DpTv K F ks ds → Dp K F (.ref a) (.dict ds)
  /-- an instance of a class with slots, those of them that are told of -/
  | sob {a C dx : Addr} {nm : Str} {vs : List (Option V)} {ds : List (D × D)} : F a = some (SlX.SlO a C dx vs) → F dx = some (.xd []) → ObC K nm C → DpFs K F C vs ds → Dp K F (.ref a) (.dict ((.dict [(.int (a : Nat), .none)], .str nm) :: ds))
  | xco {a t C : Addr} {nm : Str} : F a = some (xcO C t a) → F t = some (.tup []) → XcC K nm C → Dp K F (.ref a) (excD nm)
  | opq {a : Addr} {P : Program} {w : World} {xs : List (NestedKey × Addr × Value)} : F a = some (rawN P w a xs) → Dp K F (.ref a) opqD
inductive DpAll (K : PySem.W.Frag) (F : Hp) : List V → List D → Prop
  | nil : DpAll K F [] []
  | cons {v : V} {vs : List V} {d : D} {ds : List D} : Dp K F v d → DpAll K F vs ds → DpAll K F (v :: vs) (d :: ds)
inductive DpFs (K : PySem.W.Frag) (F : Hp) : Addr → List (Option V) → List (D × D) → Prop
  | nil {C : Addr} {vs : List (Option V)} : DpFs K F C vs []
  | cons {C p : Addr} {vs : List (Option V)} {f : Str} {i : Nat} {v : V} {d : D} {ds : List (D × D)} : SlX.Slot1 K C f p i → vs[i]? = some (some v) → Dp K F v d → DpFs K F C vs ds → DpFs K F C vs ((.str f, d) :: ds)
/-- keys ints and texts -/
inductive DpKv (K : PySem.W.Frag) (F : Hp) : List (Key × V) → List (D × D) → Prop
  | nil : DpKv K F [] []
  | cons {k : Key} {v : V} {ks : List (Key × V)} {d : D} {ds : List (D × D)} : Dp K F v d → DpKv K F ks ds → DpKv K F ((k, v) :: ks) ((keyD k, d) :: ds)
/-- keys tuples of ints and texts -/
inductive DpTv (K : PySem.W.Frag) (F : Hp) : List (List Key × V) → List (D × D) → Prop
  | nil : DpTv K F [] []
  | cons {k : List Key} {v : V} {ks : List (List Key × V)} {d : D} {ds : List (D × D)} : Dp K F v d → DpTv K F ks ds → DpTv K F ((k, v) :: ks) ((.tuple (k.map keyD), d) :: ds)
end
section
variable {K : PySem.W.Frag}
mutual
theorem Dp.l2 {F : Hp} : ∀ {d : D} {v : V}, Dp K F v d → d.hasDict = false → L2.Dp K F v d
  | .none, _, .non, _ => .non
  | .bool _, _, .bl b, _ => .bl b
  | .int _, _, .int i, _ => .int i
  | .str _, _, .str x, _ => .str x
  | .list _, _, .lst h1 h2, h => .lst (.inl h1) (DpAll.l2 h2 (by simpa only [PyData.hasDict] using h))
  | .tuple _, _, .tup h1 h2, h => .tup h1 (DpAll.l2 h2 (by simpa only [PyData.hasDict] using h))
  | .dict _, _, .dic _ _, h => by simp only [PyData.hasDict] at h; cases h
  | .dict _, _, .dit _ _ _, h => by simp only [PyData.hasDict] at h; cases h
  | .dict _, _, .sob _ _ _ _, h => by simp only [PyData.hasDict] at h; cases h
  | _, _, .opq _, h => by simp only [opqD, PyData.hasDict] at h; cases h
  | _, _, .xco _ _ _, h => by simp only [excD, PyData.hasDict] at h; cases h
theorem DpAll.l2 {F : Hp} : ∀ {ds : List D} {vs : List V}, DpAll K F vs ds → PyData.hasDictAll ds = false → L2.DpAll K F vs ds
  | [], _, .nil, _ => .nil
  | _ :: _, _, .cons h1 h2, h => by
    simp only [PyData.hasDictAll, Bool.or_eq_false_iff] at h
    exact .cons (Dp.l2 h1 h.1) (DpAll.l2 h2 h.2)
end
mutual
theorem noDict_lay : ∀ {d : D}, d.canLay0 = true → d.hasDict = false
  | .none, _ => by simp only [PyData.hasDict]
  | .bool _, _ => by simp only [PyData.hasDict]
  | .int _, _ => by simp only [PyData.hasDict]
  | .str _, _ => by simp only [PyData.hasDict]
  | .list _, h => by simp only [PyData.hasDict]; exact noDicts_lay (by simpa only [PyData.canLay0] using h)
  | .tuple _, h => by simp only [PyData.hasDict]; exact noDicts_lay (by simpa only [PyData.canLay0] using h)
  | .dict _, h => by simp only [PyData.canLay0] at h; cases h
theorem noDicts_lay : ∀ {ds : List D}, PyData.canLayAll0 ds = true → PyData.hasDictAll ds = false
  | [], _ => by simp only [PyData.hasDictAll]
  | d :: ds, h => by
    simp only [PyData.canLayAll0, Bool.and_eq_true] at h
    simp only [PyData.hasDictAll, noDict_lay h.1, noDicts_lay h.2, Bool.or_self]
end
theorem rd_mono {F F' : Hp} {a : Addr} {u : HO} (e : Same F F') (h : Rd F a u) : Rd F' a u := h.imp (e _ _) fun ⟨o, q⟩ => ⟨o, e _ _ q⟩
theorem sqT_mono {F F' : Hp} {a : Addr} {xs : List V} (e : Same F F') (h : SqT K F a xs) : SqT K F' a xs := by
  rcases h with
                                                                                                                (h | ⟨o, h⟩) | h
  · exact .inl (.inl (e _ _ h))
  · exact .inl
                                                                                                                  (.inr ⟨o, e _ _ h⟩)
  · exact .inr h
mutual
theorem dp_mono {F F' : Hp} (e : Same F F') : ∀ {d : D} {v : V}, Dp K F v d → Dp K F' v d
  | .none, _, .non => .non
  | .bool _, _, .bl b => .bl b
  | .int _, _, .int i => .int i
  | .str _, _, .str x => .str x
  | .list _, _, .lst h1 h2 => .lst (rd_mono e h1) (dps_mono e h2)
  | .tuple _, _, .tup h1 h2 => .tup (sqT_mono e h1) (dps_mono e h2)
  | .dict _, _, .dic h1 h2 => .dic (rd_mono e h1) (dpk_mono e h2)
  | .dict _, _, .dit h1 h0 h2 => .dit (rd_mono e h1) h0 (dpt_mono e h2)
  | .dict _, _, .sob h1 h2 c1 h3 => .sob (e _ _ h1) (e _ _ h2) c1 (dpf_mono e h3)
  | _, _, .opq h1 => .opq (e _ _ h1)
  | _, _, .xco h1 h2 h3 => .xco (e _ _ h1) (e _ _ h2) h3
theorem dps_mono {F F' : Hp} (e : Same F F') : ∀ {ds : List D} {vs : List V}, DpAll K F vs ds → DpAll K F' vs ds
  | [], _, .nil => .nil
  | _ :: _, _, .cons h1 h2 => .cons (dp_mono e h1) (dps_mono e h2)
theorem dpk_mono {F F' : Hp} (e : Same F F') : ∀ {ds : List (D × D)} {vs : List (Key × V)}, DpKv K F vs ds → DpKv K F' vs ds
  | [], _, .nil => .nil
  | _ :: _, _, .cons h1 h2 => .cons (dp_mono e h1) (dpk_mono e h2)
theorem dpf_mono {F F' : Hp} (e : Same F F') : ∀ {C : Addr} {vs : List (Option V)} {ds : List (D × D)}, DpFs K F C vs ds → DpFs K F' C vs ds
  | _, _, [], .nil => .nil
  | _, _, _ :: _, .cons h1 h2 h3 h4 => .cons h1 h2 (dp_mono e h3) (dpf_mono e h4)
theorem dpt_mono {F F' : Hp} (e : Same F F') : ∀ {ds : List (D × D)} {vs : List (List Key × V)}, DpTv K F vs ds → DpTv K F' vs ds
  | [], _, .nil => .nil
  | _ :: _, _, .cons h1 h2 => .cons (dp_mono e h1) (dpt_mono e h2)
end
theorem dps_len {F : Hp} : ∀ {vs : List V} {ds : List D}, DpAll K F vs ds → vs.length = ds.length
  | _, _, .nil => rfl
  | _, _, .cons _ h => by rw [List.length_cons, List.length_cons, dps_len h]
theorem dps_get {F : Hp} : ∀ {vs : List V} {ds : List D} {i : Nat} {v : V} {d : D}, DpAll K F vs ds → vs[i]? = some v → ds[i]? = some d → Dp K F v d
  | _, _, i, _, _, .nil, h, _ => by simp at h
  | _, _, 0, v, d, .cons r _, h, h' => by
    simp at h h'
    subst h; subst h'
    exact r
  | _, _, i + 1, v, d, .cons _ t, h, h' => dps_get (i := i) t (by simpa using h) (by simpa using h')
theorem dps_app {F : Hp} : ∀ {vs ws : List V} {ds es : List D}, DpAll K F vs ds → DpAll K F ws es → DpAll K F (vs ++ ws) (ds ++ es)
  | _, _, _, _, .nil, h => h
  | _, _, _, _, .cons a b, h => .cons a (dps_app b h)
theorem dps_one {F : Hp} {v : V} {d : D} (h : Dp K F v d) : DpAll K F [v] [d] := .cons h .nil
theorem dps_take {F : Hp} : ∀ {vs : List V} {ds : List D} (n : Nat), DpAll K F vs ds → DpAll K F (vs.take n) (ds.take n)
  | _, _, 0, _ => .nil
  | _, _, _ + 1, .nil => .nil
  | _, _, n + 1, .cons a b => .cons a (dps_take n b)
theorem dps_drop {F : Hp} : ∀ {vs : List V} {ds : List D} (n : Nat), DpAll K F vs ds → DpAll K F (vs.drop n) (ds.drop n)
  | _, _, 0, h => h
  | _, _, _ + 1, .nil => .nil
  | _, _, n + 1, .cons a b => dps_drop n b
theorem dps_set {F : Hp} {v : V} {d : D} (r : Dp K F v d) : ∀ {vs : List V} {ds : List D} (n : Nat), DpAll K F vs ds → DpAll K F (vs.set n v) (ds.set n d)
  | _, _, _, .nil => .nil
  | _, _, 0, .cons a b => .cons r b
  | _, _, n + 1, .cons a b => .cons a (dps_set r n b)
theorem dps_rev {F : Hp} : ∀ {vs : List V} {ds : List D}, DpAll K F vs ds → DpAll K F vs.reverse ds.reverse
  | _, _, .nil => .nil
  | _, _, .cons a b => by
    rw [List.reverse_cons,
                                                                                                                  List.reverse_cons]
    exact dps_app (dps_rev b) (dps_one a)
theorem dps_ints {F : Hp} : ∀ {vs : List V} {ns : List Int}, DpAll K F vs (ns.map PyData.int) → vs = ns.map V.int
  | _, [], .nil => rfl
  | _, _ :: _, .cons (.int _) h => by rw [dps_ints h]; rfl
theorem dps_bools {F : Hp} : ∀ {vs : List V} {ns : List Bool}, DpAll K F vs (ns.map PyData.bool) → vs = ns.map V.bl
  | _, [], .nil => rfl
  | _, _ :: _, .cons (.bl _) h => by rw [dps_bools h]; rfl

/-- the frozen part and the heap have grown, nothing else -/
structure Gr (F H F' H' : Hp) : Prop where
  ff : Same F F'
  fh : Same F' H'
  hh : Same H H'
  nw : ∀ a o, F' a = some o → F a = some o ∨ H a = none
theorem Gr.refl {F H : Hp} (s : Same F H) : Gr F H F H := ⟨.refl _, s, .refl _, fun _ _ h => .inl h⟩
theorem Gr.trans {F H F1 H1 F2 H2 : Hp} (a : Gr F H F1 H1) (b : Gr F1 H1 F2 H2) : Gr F H F2 H2 :=
  ⟨a.ff.trans b.ff, b.fh, a.hh.trans b.hh, fun x o h => (b.nw x o h).elim (fun q => a.nw x o q) fun q => .inr (a.hh.free q)⟩
theorem same_upd {H : Hp} {p : Addr} {o : HO} (h :
                                                                                                              H p = none) : Same H (upd H p o) := fun b x e => by
  rw [upd_ne (ne_of_none e h)]
  exact e
theorem same_upd2 {F H : Hp} {p : Addr} {o : HO} (s : Same F H) (h : F p = none) : Same F (upd H p o) := fun b x e => by
  rw [upd_ne (ne_of_none e h)]
  exact s _ _ e
/-- a new frozen thing -/
theorem Gr.laid {F H : Hp} {p : Addr} {o : HO} (s : Same F H) (h : H p = none) : Gr F H (upd F p o) (upd H p o) := by
  have hF : F p = none := s.free h
  refine ⟨same_upd hF, fun b x e => ?_, same_upd h, fun b x e => ?_⟩
  · by_cases hb : b = p
    · subst hb; rw [upd_same] at e ⊢; exact e
    · rw [upd_ne hb] at e ⊢; exact s _ _ e
  · by_cases hb : b = p
    · subst hb; exact .inr h
    · rw [upd_ne hb] at e; exact .inl e
/-- a new own thing -/
theorem Gr.made {F H : Hp} {p : Addr} {o : HO} (s : Same F H) (h : H p = none) : Gr F H F (upd H p o) :=
  ⟨.refl _, fun b x e => same_upd h _ _ (s _ _ e), same_upd h, fun _ _ e => .inl e⟩

structure Sim (K : PySem.W.Frag) (B : Bs) (σ : L2.St) (en : En) (F H : Hp) : Prop where
  len : σ.length = en.length
  sub : Same F H
  f0 : Same B.F F
  new : ∀ a o, F a = some o → B.F a = some o ∨ ¬ B.Z a
  kp : Same B.Kp H
  z : ∀ a, B.Z a → H a ≠ none
  val : ∀ (i : Nat) (d : D), en[i]? = some (.val d) → ∃ v, σ[i]? = some (some v) ∧ Dp K F v d
  own : ∀ (i : Nat) (b : Bool) (xs : List D), en[i]? = some (.own b xs) → ∃ a vs, σ[i]? = some (some (.ref a)) ∧ H a = some (.lst vs) ∧ F a = none ∧ DpAll K F vs xs ∧ B.Kp a = none ∧ (b = false → ¬ B.Z a) ∧ (b = true → B.io a)
  apart : ∀ (i j : Nat) (a : Addr), i ≠ j → isOwn en i → isOwn en j → σ[i]? = some (some (.ref a)) → σ[j]? = some (some (.ref a)) → False

variable {B : Bs} {σ : L2.St} {en : En} {F H F' H' : Hp}
theorem Sim.gr (S : Sim K B σ en F H) (g : Gr F H F' H') : Sim K B σ en F' H' where
  len := S.len
  sub := g.fh
  f0 := S.f0.trans g.ff
  new := fun a o h => (g.nw a o h).elim (S.new a o) fun q => .inr fun z => S.z a z q
  kp := S.kp.trans g.hh
  z := fun a z q => S.z a z (g.hh.free q)
  val := fun i d h => let ⟨v, h1, h2⟩ := S.val i d h; ⟨v, h1, dp_mono g.ff h2⟩
  own := fun i b xs h => by
    obtain ⟨a, vs, h1, h2, h3, h4, h5⟩ := S.own i b xs h
    refine ⟨a, vs, h1, g.hh _ _ h2, ?_, dps_mono g.ff h4, h5⟩
    cases q : F' a with
    | none => rfl
    | some o =>
      rcases g.nw a o q with e | e
      · rw [h3] at e; cases e
      · rw [h2] at e; cases e
  apart := S.apart

/-- a result: frozen, or a new own list -/
def Rl (K : PySem.W.Frag) (B : Bs) (σ : L2.St) (en : En) (F H : Hp) (v : V) : Sl → Prop
  | .val d => Dp K F v d
  | .own b xs => b = false ∧ ∃ a vs, v = .ref a ∧ H a = some (.lst vs) ∧ F a = none ∧ DpAll K F vs xs ∧ B.Kp a = none ∧ ¬ B.Z a ∧ ∀ i, isOwn en i → σ[i]? ≠ some (some (.ref a))
  | .no => False

/-- an own list that stands in no slot is frozen -/
theorem Sim.freeze {v : V} {b : Bool} {xs : List D} (S : Sim K B σ en F H) (r : Rl K B σ en F H v (.own b xs)) : ∃ F', Same F F' ∧ Sim K B σ en F' H ∧ Dp K F' v (.list xs) := by
  obtain ⟨rfl, a, vs, rfl, h2, h3, h4, h5, h6, h7⟩ := r
  have s1 : Same F (upd F a (.lst vs)) := same_upd h3
  refine ⟨upd F a (.lst vs), s1, ⟨S.len, fun c o e => ?_, S.f0.trans s1, fun c o e => ?_, S.kp, S.z, fun i d h => ?_, fun i b' ys h => ?_, S.apart⟩, .lst (.inl upd_same) (dps_mono s1 h4)⟩
  · by_cases hb : c = a
    · subst hb; rw [upd_same] at e; cases e; exact h2
    · rw [upd_ne hb] at e; exact S.sub _ _ e
  · by_cases hb : c = a
    · subst hb; exact .inr h6
    · rw [upd_ne hb] at e; exact S.new _ _ e
  · obtain ⟨v, e1, e2⟩ := S.val i d h
    exact ⟨v, e1, dp_mono s1 e2⟩
  · obtain ⟨a', vs', e1, e2, e3, e4, e5⟩ := S.own i b' ys h
    refine ⟨a', vs', e1, e2, ?_, dps_mono s1 e4, e5⟩
    rw [upd_ne]
    · exact e3
    · rintro rfl
      exact h7 i ⟨_, _, h⟩ e1

theorem isOwn_set {en : En} {i j : Nat} {s : Sl} (h : isOwn (en.set i s) j) : (j = i ∧ ∃ b xs, s = .own b xs) ∨ (j ≠ i ∧ isOwn en j) := by
  obtain ⟨b, xs, h⟩ := h
  rw [List.getElem?_set] at h
  by_cases e : i = j
  · subst e
    rw [if_pos rfl] at h
    split at h
    · exact .inl ⟨rfl, b, xs, Option.some.inj h⟩
    · cases h
  · rw [if_neg e] at h
    exact .inr ⟨fun z => e z.symm, b, xs, h⟩
theorem isOwn_out {en : En} {i : Nat} {b : Bool} {xs : List D} (h : en[i]? = some (.own b xs)) : isOwn en i := ⟨b, xs, h⟩

/-- a slot's own list is frozen where it is read -/
theorem Sim.freezeSlot {i : Nat} {xs : List D} (S : Sim K B σ en F H) (h : en[i]? = some (.own false xs)) :
    ∃ F' v, Same F F' ∧ Sim K B σ (en.set i (.val (.list xs))) F' H ∧ σ[i]? = some (some v) ∧ Dp K F' v (.list xs) := by
  obtain ⟨a, vs, h1, h2, h3, h4, h5, h6, _⟩ := S.own i _ xs h
  have s1 : Same F (upd F a (.lst vs)) := same_upd h3
  have dp : Dp K (upd F a (.lst vs)) (.ref a) (.list xs) := .lst (.inl upd_same) (dps_mono s1 h4)
  refine ⟨upd F a (.lst vs), .ref a, s1, ⟨by rw [List.length_set]; exact S.len, fun c o e => ?_, S.f0.trans s1, fun c o e => ?_, S.kp, S.z, fun j d hj => ?_, fun j b' ys hj => ?_, fun j k c hjk hj hk => ?_⟩, h1, dp⟩
  · by_cases hb : c = a
    · subst hb; rw [upd_same] at e; cases e; exact h2
    · rw [upd_ne hb] at e; exact S.sub _ _ e
  · by_cases hb : c = a
    · subst hb; exact .inr (h6 rfl)
    · rw [upd_ne hb] at e; exact S.new _ _ e
  · rw [List.getElem?_set] at hj
    by_cases e : i = j
    · subst e
      rw [if_pos rfl] at hj
      split at hj
      · cases hj; exact ⟨_, h1, dp⟩
      · cases hj
    · rw [if_neg e] at hj
      obtain ⟨v, e1, e2⟩ := S.val j d hj
      exact ⟨v, e1, dp_mono s1 e2⟩
  · rw [List.getElem?_set] at hj
    by_cases e : i = j
    · subst e
      rw [if_pos rfl] at hj
      split at hj
      · cases hj
      · cases hj
    · rw [if_neg e] at hj
      obtain ⟨a', vs', e1, e2, e3, e4, e5⟩ := S.own j b' ys hj
      refine ⟨a', vs', e1, e2, ?_, dps_mono s1 e4, e5⟩
      rw [upd_ne]
      · exact e3
      · rintro rfl
        exact S.apart i j _ e (isOwn_out h) (isOwn_out hj) h1 e1
  · rcases isOwn_set hj with ⟨_, _, _, z⟩ | ⟨_, hj⟩
    · cases z
    · rcases isOwn_set hk with ⟨_, _, _, z⟩ | ⟨_, hk⟩
      · cases z
      · exact S.apart j k c hjk hj hk

/-- a slot is stored -/
theorem Sim.store {i : Nat} {v : V} {s : Sl} (S : Sim K B σ en F H) (r : Rl K B σ en F H v s) : Sim K B (σ.set i (some v)) (en.set i s) F H := by
  refine ⟨by rw [List.length_set, List.length_set]; exact S.len, S.sub, S.f0, S.new, S.kp, S.z, fun j d hj => ?_, fun j b' ys hj => ?_, fun j k c hjk hj hk e1 e2 => ?_⟩
  · rw [List.getElem?_set] at hj
    by_cases e : i = j
    · subst e
      rw [if_pos rfl] at hj
      split at hj
      · rename_i hlt
        cases hj
        exact ⟨v, by rw [List.getElem?_set, if_pos rfl, if_pos (by rw [S.len]; exact hlt)], r⟩
      · cases hj
    · rw [if_neg e] at hj
      obtain ⟨w, e1, e2⟩ := S.val j d hj
      exact ⟨w, by rw [List.getElem?_set_ne e]; exact e1, e2⟩
  · rw [List.getElem?_set] at hj
    by_cases e : i = j
    · subst e
      rw [if_pos rfl] at hj
      split at hj
      · rename_i hlt
        cases hj
        obtain ⟨rfl, a, vs, rfl, h2, h3, h4, h5, h6, h7⟩ := r
        exact ⟨a, vs, by rw [List.getElem?_set, if_pos rfl, if_pos (by rw [S.len]; exact hlt)], h2, h3, h4, h5, fun _ => h6, fun z => by cases z⟩
      · cases hj
    · rw [if_neg e] at hj
      obtain ⟨a, vs, e1, e2⟩ := S.own j b' ys hj
      exact ⟨a, vs, by rw [List.getElem?_set_ne e]; exact e1, e2⟩
  · have key : ∀ (j k : Nat), j = i → k ≠ i → isOwn (en.set i s) j → isOwn en k → (σ.set i (some v))[j]? = some (some (.ref c)) → (σ.set i (some v))[k]? = some (some (.ref c)) → False := by
      clear hj hk e1 e2 hjk
      rintro j' k' rfl hki oj ok e1 e2
      rcases isOwn_set oj with ⟨_, b, xs, rfl⟩ | ⟨q, _⟩
      · obtain ⟨rfl, a, vs, rfl, h2, h3, h4, h5, h6, h7⟩ := r
        rw [List.getElem?_set, if_pos rfl] at e1
        split at e1
        · cases e1
          rw [List.getElem?_set_ne (Ne.symm hki)] at e2
          exact h7 k' ok e2
        · cases e1
      · exact q rfl
    by_cases hji : j = i
    · by_cases hki : k = i
      · exact hjk (hji.trans hki.symm)
      · rcases isOwn_set hk with ⟨q, _⟩ | ⟨_, hk'⟩
        · exact hki q
        · exact key j k hji hki hj hk' e1 e2
    · by_cases hki : k = i
      · rcases isOwn_set hj with ⟨q, _⟩ | ⟨_, hj'⟩
        · exact hji q
        · exact key k j hki hji hk hj' e2 e1
      · rcases isOwn_set hj with ⟨q, _⟩ | ⟨_, hj'⟩
        · exact hji q
        · rcases isOwn_set hk with ⟨q, _⟩ | ⟨_, hk'⟩
          · exact hki q
          · rw [List.getElem?_set_ne (Ne.symm hji)] at e1
            rw [List.getElem?_set_ne (Ne.symm hki)] at e2
            exact S.apart j k c hjk hj' hk' e1 e2

/-- a slot's own list is changed -/
theorem Sim.change {i : Nat} {b : Bool} {xs ys : List D} {a : Addr} {vs ws : List V} (S : Sim K B σ en F H) (h : en[i]? = some (.own b xs)) (h1 : σ[i]? = some (some (.ref a))) (h2 : H a = some (.lst vs)) (h3 : DpAll K F ws ys) :
    Sim K B σ (en.set i (.own b ys)) F (upd H a (.lst ws)) := by
  obtain ⟨a', vs', e1, e2, e3, e4, e5, e6, e7⟩ := S.own i b xs h
  rw [h1] at e1
  cases e1
  refine ⟨by rw [List.length_set]; exact S.len, same_upd2 S.sub e3, S.f0, S.new, same_upd2 S.kp e5, fun c z q => ?_, fun j d hj => ?_, fun j b' zs hj => ?_, fun j k c hjk hj hk => ?_⟩
  · by_cases hb : c = a
    · subst hb; rw [upd_same] at q; cases q
    · rw [upd_ne hb] at q; exact S.z c z q
  · rw [List.getElem?_set] at hj
    by_cases e : i = j
    · subst e
      rw [if_pos rfl] at hj
      split at hj
      · cases hj
      · cases hj
    · rw [if_neg e] at hj
      exact S.val j d hj
  · rw [List.getElem?_set] at hj
    by_cases e : i = j
    · subst e
      rw [if_pos rfl] at hj
      split at hj
      · cases hj
        exact ⟨a, ws, h1, upd_same, e3, h3, e5, e6, e7⟩
      · cases hj
    · rw [if_neg e] at hj
      obtain ⟨c, us, q1, q2, q3⟩ := S.own j b' zs hj
      refine ⟨c, us, q1, ?_, q3⟩
      rw [upd_ne]
      · exact q2
      · rintro rfl
        exact S.apart i j _ e (isOwn_out h) (isOwn_out hj) h1 q1
  · have hj' : isOwn en j := by
      rcases isOwn_set hj with ⟨q, _⟩ | ⟨_, q⟩
      · rw [q]; exact isOwn_out h
      · exact q
    have hk' : isOwn en k := by
      rcases isOwn_set hk with ⟨q, _⟩ | ⟨_, q⟩
      · rw [q]; exact isOwn_out h
      · exact q
    exact S.apart j k c hjk hj' hk'
end
end Mv

namespace Mv
open L2 PySem.Spec PySem PyProof.Rows

/-- the class of an exception by name, its fields -/
def RX (K : PySem.W.Frag) (mg : Str → Option Value) (F H : Hp) (c : Str) (fs : List (Str × D)) (cls : Value) (d : Option Addr) : Prop :=
  mg c = some cls ∧ (fs = [] ∨ ∃ dx vs, d = some dx ∧ H dx = some (.xd vs) ∧ vs.map (·.1) = fs.map (·.1) ∧ DpAll K F (vs.map (·.2)) (fs.map (·.2)))

section
variable {K : PySem.W.Frag} {mg : Str → Option Value} {B : Bs} {W : WX} {σ : L2.St} {F F1 H : Hp} {α β : Type}
def Post (K : PySem.W.Frag) (mg : Str → Option Value) (B : Bs) (W : WX) (σ : L2.St) (F : Hp) (k : α → En → Hp → Hp → Prop) : R α → Prop
  | .ok a en' => ∀ F' H', Sim K B σ en' F' H' → Same F F' → k a en' F' H'
  | .exc c fs en' => ∀ F' H' cls d, Sim K B σ en' F' H' → Same F F' → RX K mg F' H' c fs cls d → W cls d σ H'
  | .bad => False
theorem Post.up {k : α → En → Hp → Hp → Prop} {r : R α} (p : Post K mg B W σ F k r) (s : Same F F1) : Post K mg B W σ F1 k r := by
  cases r with
  | ok a e => exact fun F' H' S q => p F' H' S (s.trans q)
  | exc c fs e => exact fun F' H' cls d S q => p F' H' cls d S (s.trans q)
  | bad => exact p
theorem Post.bind {k : β → En → Hp → Hp → Prop} {r : R α} {g : α → En → R β} (p : Post K mg B W σ F k (r.bind g)) :
    Post K mg B W σ F (fun a en1 F1 _ => Post K mg B W σ F1 k (g a en1)) r := by
  cases r with
  | ok a e => exact fun F' H' S q => Post.up p q
  | exc c fs e => exact p
  | bad => exact p
theorem Post.imp {k k' : α → En → Hp → Hp → Prop} {r : R α} (p : Post K mg B W σ F k r) (h : ∀ a en' F' H', Sim K B σ en' F' H' → Same F F' → k a en' F' H' → k' a en' F' H') : Post K mg B W σ F k' r := by
  cases r with
  | ok a e => exact fun F' H' S q => h a e F' H' S q (p F' H' S q)
  | exc c fs e => exact p
  | bad => exact p

def tV (K : PySem.W.Frag) (mg : Str → Option Value) (B : Bs) (W : WX) (f : M Sl) : TE := fun σ H Q => ∃ F en, Sim K B σ en F H ∧ Post K mg B W σ F (fun r en' F' H' => ∀ v, Rl K B σ en' F' H' v r → Q v H') (f en)
def tD (K : PySem.W.Frag) (mg : Str → Option Value) (B : Bs) (W : WX) (f : M D) : TE := fun σ H Q => ∃ F en, Sim K B σ en F H ∧ Post K mg B W σ F (fun d _ F' H' => ∀ v, Dp K F' v d → Q v H') (f en)
def tDs (K : PySem.W.Frag) (mg : Str → Option Value) (B : Bs) (W : WX) (f : M (List D)) : TA := fun σ H Q => ∃ F en, Sim K B σ en F H ∧ Post K mg B W σ F (fun ds _ F' H' => ∀ vs, DpAll K F' vs ds → Q vs H') (f en)
def tBl (K : PySem.W.Frag) (mg : Str → Option Value) (B : Bs) (W : WX) (f : M Bool) : TT := fun σ H Q => ∃ F en, Sim K B σ en F H ∧ Post K mg B W σ F (fun b _ _ H' => Q b H') (f en)
end

def VE (X : Cx) (W : WX) (e : Expr) (f : M Sl) : Prop := ∀ B, PE X e (tV X.K X.mg B W f)
def VD (X : Cx) (W : WX) (e : Expr) (f : M D) : Prop := ∀ B, PE X e (tD X.K X.mg B W f)
def VDs (X : Cx) (W : WX) (es : List Expr) (f : M (List D)) : Prop := ∀ B, PA X es (tDs X.K X.mg B W f)
def VB (X : Cx) (W : WX) (e : Expr) (f : M Bool) : Prop := ∀ B, PT X e (tBl X.K X.mg B W f)

section
variable {X : Cx} {e : Expr} {es : List Expr}
theorem peWk {t t' : TE} (h : PE X e t) (w : ∀ σ H Q, t' σ H Q → t σ H Q) : PE X e t' := ⟨fun pins s σ H Q I q => h.run pins s σ H Q I (w _ _ _ q)⟩
theorem ptWk {t t' : TT} (h : PT X e t) (w : ∀ σ H Q, t' σ H Q → t σ H Q) : PT X e t' := ⟨fun pins s σ H Q I q => h.run pins s σ H Q I (w _ _ _ q)⟩
theorem pwWk {t t' : TT} (h : PW X e t) (w : ∀ σ H Q, t' σ H Q → t σ H Q) : PW X e t' := ⟨fun wh pins s σ H Q I q => h.run wh pins s σ H Q I (w _ _ _ q)⟩
theorem paWk {t t' : TA} (h : PA X es t) (w : ∀ σ H Q, t' σ H Q → t σ H Q) : PA X es t' := ⟨fun pos pins s σ H Q I q => h.run pos pins s σ H Q I (w _ _ _ q)⟩
theorem psWk {st : Stmt} {t t' : TS} (h : PS X st t) (w : ∀ D σ H, t' D σ H → t D σ H) : PS X st t' := ⟨fun pins s σ H D I q => h.run pins s σ H D I (w _ _ _ q)⟩
theorem pssWk {st : List Stmt} {t t' : TS} (h : PSs X st t) (w : ∀ D σ H, t' D σ H → t D σ H) : PSs X st t' := ⟨fun pins s σ H D I q => h.run pins s σ H D I (w _ _ _ q)⟩
theorem piWk {tg : Expr} {t t' : TI} (h : PI X tg e t) (w : ∀ σ H Q, t' σ H Q → t σ H Q) : PI X tg e t' := ⟨fun pins s σ H Q I q => h.run pins s σ H Q I (w _ _ _ q)⟩
end

/-- an own list that is handed on is frozen -/
def frzS : Sl → En → R D
  | .val d, e => .ok d e
  | .own false xs, e => .ok (.list xs) e
  | _, _ => .bad
@[simp] theorem frzS_val (d : D) (e : En) : frzS (.val d) e = .ok d e := rfl
@[simp] theorem frzS_own (xs : List D) (e : En) : frzS (.own false xs) e = .ok (.list xs) e := rfl
def vD (f : M Sl) : M D := fun en => (f en).bind frzS
section
variable {X : Cx} {W : WX} {e : Expr} {es : List Expr} {f : M Sl} {pos : Pos}
theorem VE.d (h : VE X W e f) : VD X W e (vD f) := fun B => peWk (h B) fun σ H Q ⟨F, en, S, p⟩ => by
  refine ⟨F, en, S, (Post.bind p).imp fun r en1 F1 H1 S1 s1 q v rv => ?_⟩
  cases r with
  | no => exact rv.elim
  | val d => exact q F1 H1 S1 (.refl _) v rv
  | own b xs =>
    obtain ⟨F2, s2, S2, dv⟩ := S1.freeze rv
    obtain ⟨rfl, _⟩ := rv
    exact q F2 H1 S2 s2 v dv
theorem VD.v {g : M D} (h : VD X W e g) : VE X W e (fun en => (g en).bind fun d e => .ok (.val d) e) := fun B => peWk (h B) fun σ H Q ⟨F, en, S, p⟩ =>
  ⟨F, en, S, (Post.bind p).imp fun d en1 F1 H1 S1 s1 q v rv => q F1 H1 S1 (.refl _) v rv⟩

/-! ### names, constants -/
def vVar (i : Nat) : M Sl := fun en => match en[i]? with
  | some (.val d) => .ok (.val d) en
  | some (.own false xs) => .ok (.val (.list xs)) (en.set i (.val (.list xs)))
  | _ => .bad
theorem ve_var (i : Nat) {x : Str} (hN : X.N[i]? = some x := by rfl) (hv : Vis X.env.scope x := by first | exact Or.inl rfl | exact Or.inr (Or.inl rfl) | exact Or.inr (Or.inr rfl)) (hd : (x == ("__debug__" : Str)) = false := by decide)
    (hcd : (x == ("__classdict__" : Str)) = false := by decide) : VE X W (.Name x pos) (vVar i) := fun B => peWk (pe_var hN hv hd hcd) fun σ H Q ⟨F, en, S, p⟩ => by
  unfold vVar at p
  split at p
  · rename_i d h
    obtain ⟨v, h1, h2⟩ := S.val i d h
    exact ⟨v, h1, p F H S (.refl _) v h2⟩
  · rename_i xs h
    obtain ⟨F', v, s1, S1, h1, h2⟩ := S.freezeSlot h
    exact ⟨v, h1, p F' H S1 s1 v h2⟩
  · exact p.elim
def vC (d : D) : M Sl := fun en => .ok (.val d) en
theorem ve_c {v : V} {d : D} (h : PE X e (tC v)) (hd : ∀ F, Dp X.K F v d) : VE X W e (vC d) := fun B => peWk h fun σ H Q ⟨F, en, S, p⟩ => p F H S (.refl _) v (hd F)
theorem ve_int {i j} : VE X W (.Constant (.int i) j pos) (vC (.int i)) := ve_c pe_int fun _ => .int i
theorem ve_bl {b j} : VE X W (.Constant (.bool b) j pos) (vC (.bool b)) := ve_c pe_bl fun _ => .bl b
theorem ve_non {j} : VE X W (.Constant .none j pos) (vC .none) := ve_c pe_non fun _ => .non
theorem ve_str {x j} : VE X W (.Constant (.str x) j pos) (vC (.str x)) := ve_c pe_str fun _ => .str x
/-- a constant of the module -/
theorem ve_glob {x : Str} {v : V} {u : Value} {d : D} (hg : Gl X x) (hm : X.mg x = some u) (r : RelV v u) (dv : ∀ F, Dp X.K F v d) (hd : (x == ("__debug__" : Str)) = false := by decide) : VE X W (.Name x pos) (vC d) := ve_c (pe_glob hg hm r hd) dv

/-! ### lists of arguments -/
def vNil : M (List D) := fun en => .ok [] en
def vCons (f : M Sl) (g : M (List D)) : M (List D) := fun en => (vD f en).bind fun d e => (g e).bind fun ds e2 => .ok (d :: ds) e2
theorem vds_nil : VDs X W [] vNil := fun B => paWk pa_nil fun σ H Q ⟨F, en, S, p⟩ => p F H S (.refl _) [] .nil
theorem vds_cons {g : M (List D)} (h : VE X W e f) (hr : VDs X W es g) (hs : starEach (e :: es) X.env = (false, eval e X.env) :: starEach es X.env := by rfl) : VDs X W (e :: es) (vCons f g) := fun B =>
  paWk (pa_cons (h.d B) (hr B) hs) fun σ H Q ⟨F, en, S, p⟩ => by
    refine ⟨F, en, S, (Post.bind p).imp fun d en1 F1 H1 S1 s1 q v rv => ?_⟩
    refine ⟨F1, en1, S1, (Post.bind q).imp fun ds en2 F2 H2 S2 s2 q2 vs rvs => ?_⟩
    exact q2 F2 H2 S2 (.refl _) _ (.cons (dp_mono s2 rv) rvs)
abbrev LIM : Nat := 1000000
theorem lim_line {n : Nat} (h : n ≤ LIM) : n ≤ sizeLine := by rw [sizeLine_eq]; unfold LIM at h; omega
theorem lim_lt {n : Nat} (h : n ≤ LIM) : n < sizeLine := by rw [sizeLine_eq]; unfold LIM at h; omega

/-- what a step of the machine gives: frozen, or a new own list -/
def RlF (K : PySem.W.Frag) (F' H H' : Hp) (v : V) : Sl → Prop
  | .val d => Dp K F' v d
  | .own b xs => b = false ∧ ∃ a vs, v = .ref a ∧ H' a = some (.lst vs) ∧ F' a = none ∧ DpAll K F' vs xs ∧ H a = none
  | .no => False
def Kd (K : PySem.W.Frag) (F H : Hp) (Q : VK) : Option Sl → Prop
  | some r => ∀ F' H' v, Gr F H F' H' → RlF K F' H H' v r → Q v H'
  | none => False
theorem Sim.res {K : PySem.W.Frag} {B : Bs} {σ : L2.St} {en : En} {F H F' H' : Hp} {v : V} {r : Sl} (S : Sim K B σ en F H) (h : RlF K F' H H' v r) : Rl K B σ en F' H' v r := by
  cases r with
  | no => exact h
  | val d => exact h
  | own b xs =>
    obtain ⟨rfl, a, vs, rfl, h1, h2, h3, h4⟩ := h
    refine ⟨rfl, a, vs, rfl, h1, h2, h3, S.kp.free h4, fun z => S.z a z h4, fun i ho e => ?_⟩
    obtain ⟨b, ys, ho⟩ := ho
    obtain ⟨a', vs', e1, e2, _⟩ := S.own i b ys ho
    rw [e] at e1
    cases e1
    rw [h4] at e2
    cases e2
/-- an optional result, in a state -/
def opt (o : Option Sl) (en : En) : R Sl := match o with
  | some r => .ok r en
  | none => .bad
@[simp] theorem opt_some (r : Sl) (en : En) : opt (some r) en = .ok r en := rfl
@[simp] theorem opt_none (en : En) : opt none en = .bad := rfl
theorem Post.opt {K : PySem.W.Frag} {mg : Str → Option Value} {B : Bs} {σ : L2.St} {en : En} {F H : Hp} {Q : VK} {o : Option Sl} (S : Sim K B σ en F H) (p : Post K mg B W σ F (fun r en' F' H' => ∀ v, Rl K B σ en' F' H' v r → Q v H') (Mv.opt o en)) : Kd K F H Q o := by
  cases o with
  | none => exact p.elim
  | some r => exact fun F' H' v g h => p F' H' (S.gr g) g.ff v (S.res h)
theorem Kd.val {K : PySem.W.Frag} {F H : Hp} {Q : VK} {d : D} {v : V} (s : Same F H) (k : Kd K F H Q (some (.val d))) (h : Dp K F v d) : Q v H := k F H v (.refl s) h
theorem Kd.tup {K : PySem.W.Frag} {F H : Hp} {Q : VK} {vs : List V} {ds : List D} (s : Same F H) (k : Kd K F H Q (some (.val (.tuple ds)))) (h : DpAll K F vs ds) : ∀ p, H p = none → Q (.ref p) (upd H p (.tup vs)) := fun p hp =>
  k (upd F p (.tup vs)) (upd H p (.tup vs)) _ (Gr.laid s hp) (.tup (.inl (.inl upd_same)) (dps_mono (same_upd (s.free hp)) h))
theorem Kd.lst {K : PySem.W.Frag} {F H : Hp} {Q : VK} {vs : List V} {ds : List D} (s : Same F H) (k : Kd K F H Q (some (.own false ds))) (h : DpAll K F vs ds) : ∀ p, H p = none → Q (.ref p) (upd H p (.lst vs)) := fun p hp =>
  k F (upd H p (.lst vs)) _ (Gr.made s hp) ⟨rfl, p, vs, rfl, upd_same, s.free hp, h, hp⟩

/-! ### displays -/
def vTup (g : M (List D)) : M Sl := fun en => (g en).bind fun ds e => opt (if ds.length ≤ LIM then some (.val (.tuple ds)) else none) e
def vLst (g : M (List D)) : M Sl := fun en => (g en).bind fun ds e => opt (if ds.length ≤ LIM then some (.own false ds) else none) e
theorem ve_tup {g : M (List D)} {k : Nat} (h : VDs X W es g) : VE X W (.Tuple es k pos) (vTup g) := fun B => peWk (pe_tup (h B)) fun σ H Q ⟨F, en, S, p⟩ => by
  refine ⟨F, en, S, (Post.bind p).imp fun ds en1 F1 H1 S1 s1 q vs rvs => ?_⟩
  have k := Post.opt S1 q
  by_cases hl : ds.length ≤ LIM
  · rw [if_pos hl] at k
    exact ⟨by rw [dps_len rvs]; exact lim_line hl, Kd.tup S1.sub k rvs⟩
  · rw [if_neg hl] at k
    exact k.elim
theorem ve_lst {g : M (List D)} (h : VDs X W es g) : VE X W (.List es pos) (vLst g) := fun B => peWk (pe_lst (h B)) fun σ H Q ⟨F, en, S, p⟩ => by
  refine ⟨F, en, S, (Post.bind p).imp fun ds en1 F1 H1 S1 s1 q vs rvs => ?_⟩
  have k := Post.opt S1 q
  by_cases hl : ds.length ≤ LIM
  · rw [if_pos hl] at k
    exact ⟨by rw [dps_len rvs]; exact lim_line hl, Kd.lst S1.sub k rvs⟩
  · rw [if_neg hl] at k
    exact k.elim

/-! ### operators by values -/
def OV (X : Cx) (f : Value → Value → Sem Value) (o : D → D → Option Sl) : Prop := OpR X f fun x y H Q => ∃ F a b, Same F H ∧ Dp X.K F x a ∧ Dp X.K F y b ∧ Kd X.K F H Q (o a b)
def UV (X : Cx) (f : Value → Sem Value) (o : D → Option Sl) : Prop := UnR X f fun x H Q => ∃ F a, Same F H ∧ Dp X.K F x a ∧ Kd X.K F H Q (o a)
def CV (X : Cx) (f : Value) (o : List D → Option Sl) : Prop := CallR X f fun xs H Q => ∃ F as, Same F H ∧ DpAll X.K F xs as ∧ Kd X.K F H Q (o as)
def IV (X : Cx) (o : D → D → Option Sl) : Prop := IxR X fun x y H Q => ∃ F a b, Same F H ∧ Dp X.K F x a ∧ Dp X.K F y b ∧ Kd X.K F H Q (o a b)
def vOp (o : D → D → Option Sl) (f g : M Sl) : M Sl := fun en => (vD f en).bind fun x e => (vD g e).bind fun y e2 => opt (o x y) e2
def vUn (o : D → Option Sl) (f : M Sl) : M Sl := fun en => (vD f en).bind fun x e => opt (o x) e
def vCb (o : List D → Option Sl) (g : M (List D)) : M Sl := fun en => (g en).bind fun xs e => opt (o xs) e
variable {a b : Expr} {fa fb : M Sl}
theorem rd_op {r : R2} {o : D → D → Option Sl} {B : Bs} (hr : r = fun x y H Q => ∃ F a b, Same F H ∧ Dp X.K F x a ∧ Dp X.K F y b ∧ Kd X.K F H Q (o a b)) :
    ∀ σ H Q, tV X.K X.mg B W (vOp o fa fb) σ H Q → tOp r (tD X.K X.mg B W (vD fa)) (tD X.K X.mg B W (vD fb)) σ H Q := fun σ H Q ⟨F, en, S, p⟩ => by
  refine ⟨F, en, S, (Post.bind p).imp fun d en1 F1 H1 S1 s1 q v rv => ?_⟩
  refine ⟨F1, en1, S1, (Post.bind q).imp fun d2 en2 F2 H2 S2 s2 q2 v2 rv2 => ?_⟩
  rw [hr]
  exact ⟨F2, d, d2, S2.sub, dp_mono s2 rv, rv2, Post.opt S2 q2⟩
theorem ve_bin {op : Operator} {o : D → D → Option Sl} (ho : OV X (binaryOp op) o) (ha : VE X W a fa) (hb : VE X W b fb) : VE X W (.BinOp a op b pos) (vOp o fa fb) := fun B =>
  peWk (pe_op ho (ha.d B) (hb.d B)) (rd_op rfl)
theorem ve_cmp {op : CmpOp} {o : D → D → Option Sl} (ho : OV X (compareOp op) o) (ha : VE X W a fa) (hb : VE X W b fb) (hm : behindInMarks op b = false) : VE X W (.Compare a [op] [b] pos) (vOp o fa fb) := fun B =>
  peWk (pe_cmpR ho (ha.d B) (hb.d B) hm) (rd_op rfl)
theorem ve_ix {o : D → D → Option Sl} (ho : IV X o) (ha : VE X W a fa) (hb : VE X W b fb) (hs : PlainIx b := by exact fun _ _ => rfl) : VE X W (.Subscript a b pos) (vOp o fa fb) := fun B =>
  peWk (pe_ix ho (ha.d B) (hb.d B) hs) (rd_op rfl)
theorem ve_un {op : UnaryOp} {o : D → Option Sl} (ho : UV X (unaryOp op) o) (ha : VE X W a fa) : VE X W (.UnaryOp op a pos) (vUn o fa) := fun B =>
  peWk (pe_un ho (ha.d B)) fun σ H Q ⟨F, en, S, p⟩ => by
    refine ⟨F, en, S, (Post.bind p).imp fun d en1 F1 H1 S1 s1 q v rv => ?_⟩
    exact ⟨F1, d, S1.sub, rv, Post.opt S1 q⟩

/-! ### truth of bools -/
def bOf : D → En → R Bool
  | .bool b, e => .ok b e
  | _, _ => .bad
@[simp] theorem bOf_bool (b : Bool) (e : En) : bOf (.bool b) e = .ok b e := rfl
def vB (f : M Sl) : M Bool := fun en => (vD f en).bind bOf
theorem vb_cmp {op : CmpOp} {o : D → D → Option Sl} (ho : OV X (compareOp op) o) (ha : VE X W a fa) (hb : VE X W b fb) (hm : behindInMarks op b = false) : VB X W (.Compare a [op] [b] pos) (vB (vOp o fa fb)) := fun B =>
  ptWk (pt_cmpR ho (ha.d B) (hb.d B) hm) fun σ H Q ⟨F, en, S, p⟩ => by
    refine rd_op (o := o) rfl σ H _ ⟨F, en, S, ?_⟩
    have p2 : Post X.K X.mg B W σ F (fun b _ _ H' => Q b H') ((vOp o fa fb en).bind fun r e => (frzS r e).bind bOf) := by
      have e : vB (vOp o fa fb) en = (vOp o fa fb en).bind fun r e => (frzS r e).bind bOf := by
        unfold vB vD
        cases vOp o fa fb en <;> rfl
      rw [← e]; exact p
    refine (Post.bind p2).imp fun r en1 F1 H1 S1 s1 q v rv => ?_
    cases r with
    | no => exact rv.elim
    | own b xs =>
      obtain ⟨rfl, _⟩ := rv
      exact q.elim
    | val d =>
      cases d with
      | bool k =>
        cases rv
        exact ⟨k, rfl, q F1 H1 S1 (.refl _)⟩
      | _ => exact q.elim
theorem vb_val (h : VE X W e f) (he : ∀ whole, isTrue e X.env whole = (do let v ← whole; standAt e.pos; holding [v] (truthy v)) := by intro _; rfl) : VB X W e (vB f) := fun B =>
  ptWk (pt_val (h.d B) he) fun σ H Q ⟨F, en, S, p⟩ => by
    refine ⟨F, en, S, (Post.bind p).imp fun d en1 F1 H1 S1 s1 q v rv => ?_⟩
    cases d with
    | bool k =>
      cases rv
      exact ⟨k, rfl, q F1 H1 S1 (.refl _)⟩
    | _ => exact q.elim
/-- and, or, not, if as tests -/
def bAnd (f g : M Bool) : M Bool := fun en => (f en).bind fun b e => if b = true then g e else .ok false e
def bOr (f g : M Bool) : M Bool := fun en => (f en).bind fun b e => if b = true then .ok true e else g e
def bNot (f : M Bool) : M Bool := fun en => (f en).bind fun b e => .ok (!b) e
def VW (X : Cx) (W : WX) (e : Expr) (f : M Bool) : Prop := ∀ B, PW X e (tBl X.K X.mg B W f)
theorem VW.vb {f : M Bool} (h : VW X W e f) : VB X W e f := fun B => (h B).pt
variable {ga gb : M Bool} {rest : List Expr}
theorem vw_and1 (h : VB X W a ga) : VW X W (.BoolOp .And [a] pos) ga := fun B => pw_and1 (h B)
theorem vw_or1 (h : VB X W a ga) : VW X W (.BoolOp .Or [a] pos) ga := fun B => pw_or1 (h B)
theorem vw_and (h : VB X W a ga) (h2 : VW X W (.BoolOp .And (b :: rest) pos) gb) : VW X W (.BoolOp .And (a :: b :: rest) pos) (bAnd ga gb) := fun B =>
  pwWk (pw_and (h B) (h2 B)) fun σ H Q ⟨F, en, S, p⟩ => by
    refine ⟨F, en, S, (Post.bind p).imp fun k en1 F1 H1 S1 s1 q => ?_⟩
    cases k with
    | true => rw [if_pos rfl] at q ⊢; exact ⟨F1, en1, S1, q⟩
    | false => rw [if_neg Bool.false_ne_true] at q ⊢; exact q F1 H1 S1 (.refl _)
theorem vw_or (h : VB X W a ga) (h2 : VW X W (.BoolOp .Or (b :: rest) pos) gb) : VW X W (.BoolOp .Or (a :: b :: rest) pos) (bOr ga gb) := fun B =>
  pwWk (pw_or (h B) (h2 B)) fun σ H Q ⟨F, en, S, p⟩ => by
    refine ⟨F, en, S, (Post.bind p).imp fun k en1 F1 H1 S1 s1 q => ?_⟩
    cases k with
    | true => rw [if_pos rfl] at q ⊢; exact q F1 H1 S1 (.refl _)
    | false => rw [if_neg Bool.false_ne_true] at q ⊢; exact ⟨F1, en1, S1, q⟩
theorem vb_not (h : VB X W a ga) : VB X W (.UnaryOp .Not a pos) (bNot ga) := fun B =>
  ptWk (pt_not (h B)) fun σ H Q ⟨F, en, S, p⟩ => ⟨F, en, S, (Post.bind p).imp fun k en1 F1 H1 S1 s1 q => q F1 H1 S1 (.refl _)⟩
/-- .. as values -/
def vAnd (f g : M Sl) : M Sl := fun en => (vB f en).bind fun b e => if b = true then g e else .ok (.val (.bool false)) e
def vOr (f g : M Sl) : M Sl := fun en => (vB f en).bind fun b e => if b = true then .ok (.val (.bool true)) e else g e
def vNot (f : M Sl) : M Sl := fun en => (vB f en).bind fun b e => .ok (.val (.bool (!b))) e
def vIf (c : M Bool) (f g : M Sl) : M Sl := fun en => (c en).bind fun b e => if b = true then f e else g e
theorem Post.vb {B : Bs} {σ : L2.St} {F : Hp} {en : En} {α : Type} {k : α → En → Hp → Hp → Prop} {g : Bool → En → R α} (p : Post X.K X.mg B W σ F k ((vB f en).bind g)) :
    Post X.K X.mg B W σ F (fun d en1 F1 _ => ∃ c, d = PyData.bool c ∧ Post X.K X.mg B W σ F1 k (g c en1)) (vD f en) := by
  have e : (vB f en).bind g = (vD f en).bind fun d e => (bOf d e).bind g := by
    unfold vB
    cases vD f en <;> rfl
  rw [e] at p
  refine (Post.bind p).imp fun d en1 F1 H1 S1 s1 q => ?_
  cases d with
  | bool c => exact ⟨c, rfl, q⟩
  | _ => exact q.elim
theorem ve_one {op} (h : VE X W a fa) : VE X W (.BoolOp op [a] pos) fa := fun B => pe_one (h B)
theorem ve_and (h : VE X W a fa) (h2 : VE X W (.BoolOp .And (b :: rest) pos) fb) : VE X W (.BoolOp .And (a :: b :: rest) pos) (vAnd fa fb) := fun B =>
  peWk (pe_and (h.d B) (h2 B)) fun σ H Q ⟨F, en, S, p⟩ => by
    refine ⟨F, en, S, (Post.vb p).imp fun d en1 F1 H1 S1 s1 q v rv => ?_⟩
    obtain ⟨c, rfl, q⟩ := q
    cases rv
    refine ⟨c, rfl, ?_⟩
    cases c with
    | true => rw [if_pos rfl] at q ⊢; exact ⟨F1, en1, S1, q⟩
    | false => rw [if_neg Bool.false_ne_true] at q ⊢; exact q F1 H1 S1 (.refl _) _ (.bl false)
theorem ve_not (h : VE X W a fa) : VE X W (.UnaryOp .Not a pos) (vNot fa) := fun B =>
  peWk (pe_not (h.d B)) fun σ H Q ⟨F, en, S, p⟩ => by
    refine ⟨F, en, S, (Post.vb p).imp fun d en1 F1 H1 S1 s1 q v rv => ?_⟩
    obtain ⟨c, rfl, q⟩ := q
    cases rv
    exact ⟨c, rfl, q F1 H1 S1 (.refl _) _ (.bl _)⟩
theorem ve_if {c : Expr} (hc : VB X W c ga) (ha : VE X W a fa) (hb : VE X W b fb) : VE X W (.IfExp c a b pos) (vIf ga fa fb) := fun B =>
  peWk (pe_ifExp (hc B) (ha B) (hb B)) fun σ H Q ⟨F, en, S, p⟩ => by
    refine ⟨F, en, S, (Post.bind p).imp fun k en1 F1 H1 S1 s1 q => ?_⟩
    cases k with
    | true => rw [if_pos rfl] at q ⊢; exact ⟨F1, en1, S1, q⟩
    | false => rw [if_neg Bool.false_ne_true] at q ⊢; exact ⟨F1, en1, S1, q⟩

/-! ### calls of built-ins -/
variable {x : Str} {p : Pos} {id T : String} {o : List D → Option Sl} {g : M (List D)}
theorem rd_cb {B : Bs} : ∀ σ H Q, tV X.K X.mg B W (vCb o g) σ H Q → tCB (fun xs H Q => ∃ F as, Same F H ∧ DpAll X.K F xs as ∧ Kd X.K F H Q (o as)) (tDs X.K X.mg B W g) σ H Q := fun σ H Q ⟨F, en, S, p⟩ =>
  ⟨F, en, S, (Post.bind p).imp fun ds en1 F1 H1 S1 s1 q vs rvs => ⟨F1, ds, S1.sub, rvs, Post.opt S1 q⟩⟩
theorem ve_callB (hc : CV X (.builtin id) o) (hg : Gl X x) (hm : X.mg x = none) (hv : bootBuiltins x = some (.builtin id)) (ha : VDs X W (e :: es) g) (hn : x ≠ "__name__" := by decide) (hdb : (x == ("__debug__" : Str)) = false := by decide)
    (he : starEach (e :: es) X.env = (false, eval e X.env) :: starEach es X.env := by rfl) (hpl : (backTo pos (starEach es X.env)).any (·.1) = false := by rfl) : VE X W (.Call (.Name x p) (e :: es) [] pos) (vCb o g) := fun B =>
  peWk (pe_callB hc hg hm hv (ha B) hn hdb he hpl) rd_cb
theorem ve_callTy (hc : CV X (.type T) o) (hg : Gl X x) (hm : X.mg x = none) (hv : bootBuiltins x = some (.type T)) (ha : VDs X W (e :: es) g) (hn : x ≠ "__name__" := by decide) (hdb : (x == ("__debug__" : Str)) = false := by decide)
    (he : starEach (e :: es) X.env = (false, eval e X.env) :: starEach es X.env := by rfl) (hpl : (backTo pos (starEach es X.env)).any (·.1) = false := by rfl) : VE X W (.Call (.Name x p) (e :: es) [] pos) (vCb o g) := fun B =>
  peWk (pe_callTy hc hg hm hv (ha B) hn hdb he hpl) rd_cb
end
end Mv

namespace Mv
open L2 PySem.Spec PySem PyProof.Rows

/-! ### walks over sources: lists and tuples -/
inductive SrcK where
  | l | t
/-! ### enumerate -/
open AutoSeq1 (wpAny_loadPart') in
set_option maxHeartbeats 1230000 in
/-! ### zip of two -/
end Mv

namespace Mv
open L2 PySem.Spec PySem PyProof.Rows

/-! ### what is walked, by values -/
/-- Fk: what is kept beside what is frozen -/
def Wk (K : PySem.W.Frag) (Fk F : Hp) (J : It) (ds : List D) : Prop := ∃ G Y, Walk J ds.length G Y ∧ (∀ F1 H, Same F F1 → Same F1 H → Same Fk H → G H) ∧
  ∀ i F1 H x H', i < ds.length → Same F F1 → Same F1 H → Same Fk H → Y i H x H' → ∃ F', Gr F1 H F' H' ∧ ∃ d, ds[i]? = some d ∧ Dp K F' x d
def tI (K : PySem.W.Frag) (mg : Str → Option Value) (B : Bs) (W : WX) (f : M (List D)) : TI := fun σ H R => ∃ F en, Sim K B σ en F H ∧ Post K mg B W σ F (fun ds _ F' H' => ∀ J, Wk K B.Kp F' J ds → R J H') (f en)
def VI (X : Cx) (W : WX) (tg e : Expr) (f : M (List D)) : Prop := ∀ B, PI X tg e (tI X.K X.mg B W f)
section
variable {K : PySem.W.Frag} {F Fk : Hp}
theorem wk_list {a : Addr} {vs : List V} {ds : List D} (q : SqL K F a vs) (r : DpAll K F vs ds) : Wk K Fk F (Itl K a) ds := by
  have hl := dps_len r
  refine ⟨_, _, by rw [← hl]; exact walk_list (xs := vs), fun F1 H s1 s2 _ => (s1.trans s2).seq q, fun i F1 H x H' hi s1 s2 _ y => ?_⟩
  obtain ⟨rfl, e⟩ := y
  exact ⟨F1, .refl s2, _, List.getElem?_eq_getElem hi, dp_mono s1 (dps_get r e (List.getElem?_eq_getElem hi))⟩
theorem wk_tup {a : Addr} {vs : List V} {ds : List D} (q : SqT K F a vs) (r : DpAll K F vs ds) : Wk K Fk F (Itt K a) ds := by
  have hl := dps_len r
  refine ⟨_, _, by rw [← hl]; exact walk_tup (xs := vs), fun F1 H s1 s2 _ => sqT_mono (s1.trans s2) q, fun i F1 H x H' hi s1 s2 _ y => ?_⟩
  obtain ⟨rfl, e⟩ := y
  exact ⟨F1, .refl s2, _, List.getElem?_eq_getElem hi, dp_mono s1 (dps_get r e (List.getElem?_eq_getElem hi))⟩
def chars (z : Str) : List D := z.cps.toList.map fun c => .str ⟨#[c]⟩
theorem wk_str {z : Str} : Wk K Fk F (Its z) (chars z) := by
  have hl : (chars z).length = z.cps.size := by simp [chars]
  refine ⟨_, _, by rw [hl]; exact walk_str, fun _ _ _ _ _ => trivial, fun i F1 H x H' hi s1 s2 _ y => ?_⟩
  obtain ⟨rfl, c, e, rfl⟩ := y
  exact ⟨F1, .refl s2, .str ⟨#[c]⟩, by simp [chars, e], .str _⟩
def rngD (lo : Int) (n : Nat) : List D := (List.range n).map fun k => .int (lo + (k : Nat))
theorem wk_rng {lo : Int} {n : Nat} : Wk K Fk F (Itr lo n) (rngD lo n) := by
  have hl : (rngD lo n).length = n := by simp [rngD]
  refine ⟨_, _, by rw [hl]; exact walk_range, fun _ _ _ _ _ => trivial, fun i F1 H x H' hi s1 s2 _ y => ?_⟩
  obtain ⟨rfl, rfl⟩ := y
  rw [hl] at hi
  exact ⟨F1, .refl s2, .int (lo + i), by simp [rngD, hi], .int _⟩
end

def itemsOf : D → En → R (List D)
  | .list ds, e => .ok ds e
  | .tuple ds, e => .ok ds e
  | .str z, e => .ok (chars z) e
  | _, _ => .bad
@[simp] theorem itemsOf_list (ds : List D) (e : En) : itemsOf (.list ds) e = .ok ds e := rfl
@[simp] theorem itemsOf_tuple (ds : List D) (e : En) : itemsOf (.tuple ds) e = .ok ds e := rfl
@[simp] theorem itemsOf_str (z : Str) (e : En) : itemsOf (.str z) e = .ok (chars z) e := rfl
def vItems (f : M Sl) : M (List D) := fun en => (vD f en).bind itemsOf
section
variable {X : Cx} {W : WX} {tg e : Expr} {f : M Sl}
def iSeq (K : PySem.W.Frag) (tl : TE) : TI := fun σ H R => tl σ H fun x H1 => (∃ a vs, x = .ref a ∧ SqL K H1 a vs ∧ R (Itl K a) H1) ∨ (∃ a vs, x = .ref a ∧ SqT K H1 a vs ∧ R (Itt K a) H1) ∨ ∃ z, x = .str z ∧ R (Its z) H1
theorem pi_seq {tl : TE} (hl : PE X e tl) : PI X tg e (iSeq X.K tl) := by
  refine ⟨fun pins s σ H R I h => thn (hl.run pins s σ H _ I h) fun v s1 ⟨x, H1, I1, r1, q1⟩ => ?_⟩
  rcases q1 with ⟨a, vs, rfl, hq, q⟩ | ⟨a, vs, rfl, hq, q⟩ | ⟨z, rfl, q⟩
  · cases r1
    obtain ⟨its, rv,
                                                                                                                  p, hz⟩ := I1.list hq
    exact wpAny_pyIter_list p.isList (pi_one (tk := s1.toks) I1 _ (turn_list a _) ⟨_, Heap.get?_push_size _ rfl, rfl, rfl⟩ q)
  · cases r1
    obtain ⟨its, rv, p,
                                                                                                                  hz⟩ := I1.tuple hq
    exact wpAny_pyIter_tuple (show s1.heap.IsTuple a its.toArray from p) (pi_one (tk := s1.toks) I1 _ (turn_tuple a _) ⟨_, Heap.get?_push_size _ rfl, rfl, rfl⟩ q)
  · obtain ⟨t, rfl⟩ := r1
    cases ha : z.cps.all (· < 128)
    · exact wpAny_pyIter_wide ha (pi_one (tk := s1.toks) I1 _ (turn_str _ z t _ (.inr rfl)) ⟨_, Heap.get?_push_size _ rfl, rfl, rfl⟩ q)
    · exact wpAny_pyIter_ascii ha (pi_one (tk := s1.toks) I1 _ (turn_str _ z t _ (.inl rfl)) ⟨_, Heap.get?_push_size _ rfl, rfl, rfl⟩ q)
theorem vi_seq (h : VE X W e f) : VI X W tg e (vItems f) := fun B => piWk (pi_seq (h.d B)) fun σ H R ⟨F, en, S, p⟩ => by
  refine ⟨F, en, S, (Post.bind p).imp fun d en1 F1 H1 S1 s1 q v rv => ?_⟩
  cases d with
  | list ds =>
    cases rv with
    | lst h1 h2 => exact .inl ⟨_, _, rfl, S1.sub.seq (.inl h1), q F1 H1 S1 (.refl _) _ (wk_list (.inl h1) h2)⟩
  | tuple ds =>
    cases rv with
    | tup h1 h2 => exact .inr (.inl ⟨_, _, rfl, sqT_mono S1.sub h1, q F1 H1 S1 (.refl _) _ (wk_tup h1 h2)⟩)
  | str z =>
    cases rv
    exact .inr (.inr ⟨z, rfl, q F1 H1 S1 (.refl _) _ wk_str⟩)
  | _ => exact q.elim
variable {a b : Expr} {g : M (List D)} {p pos : Pos}
/-- a lower end below makes an empty range as well -/
theorem vi_range1 (hg : Gl X "range") (hm : X.mg "range" = none) (ha : VDs X W [a] g) (hs : starEach [a] X.env = [(false, eval a X.env)] := by rfl) : VI X W tg (.Call (.Name "range" p) [a] [] pos) (fun en => (g en).bind fun ds e => match ds with
    | [.int j] => if j.natAbs < 1000000000 then .ok (rngD 0 j.toNat) e else .bad
    | _ => .bad) := fun B => piWk (pi_range1 hg hm (ha B) hs) fun σ H R ⟨F, en, S, p⟩ => by
  refine ⟨F, en, S, (Post.bind p).imp fun ds en1 F1 H1 S1 s1 q vs rv => ?_⟩
  split at q
  · rename_i j
    cases rv with
    | cons r rr =>
      cases rr
      cases r
      split at q
      · rename_i hj
        exact ⟨j, rfl, by omega, by omega, q F1 H1 S1 (.refl _) _ wk_rng⟩
      · exact q.elim
  · exact q.elim
end
/-- what enumerate and zip take: a list or a tuple -/
def seqOf : D → Option (List D)
  | .list ds => some ds
  | .tuple ds => some ds
  | _ => none
def enumD (ds : List D) : List D := ds.mapIdx fun i d => .tuple [.int (i : Nat), d]
def zipD (ds es : List D) : List D := List.zipWith (fun a b => .tuple [a, b]) ds es
section
variable {X : Cx} {W : WX} {a b : Expr} {g : M (List D)} {p pos tpos : Pos} {elts : List Expr} {kk : Nat}
end

/-! ### targets -/
def tG (K : PySem.W.Frag) (B : Bs) (vs : List Nat) (g : D → En → Option En) : TG := fun v σ H Q => ∃ F en d, Sim K B σ en F H ∧ Dp K F v d ∧ ∃ en', g d en = some en' ∧ ∀ σ', Sim K B σ' en' F H → wipe σ' vs = wipe σ vs → Q σ' H
def tGs (K : PySem.W.Frag) (B : Bs) (vs : List Nat) (g : List D → En → Option En) : TGs := fun us σ H Q => ∃ F en ds, Sim K B σ en F H ∧ DpAll K F us ds ∧ ∃ en', g ds en = some en' ∧ ∀ σ', Sim K B σ' en' F H → wipe σ' vs = wipe σ vs → Q σ' H
def VG (X : Cx) (e : Expr) (vs : List Nat) (g : D → En → Option En) : Prop := ∀ B, PG X e (tG X.K B vs g)
def VGs (X : Cx) (es : List Expr) (vs : List Nat) (g : List D → En → Option En) : Prop := ∀ B, PGs X es (tGs X.K B vs g)
theorem wipe_set {σ : L2.St} {i : Nat} {x : Option V} : ∀ {vs : List Nat}, i ∈ vs → wipe (σ.set i x) vs = wipe σ vs
  | v :: vs, h => by
    unfold wipe
    by_cases e : i = v
    · subst e
      by_cases h2 : i ∈ vs
      · rw [wipe_set h2]
      · have : ∀ us : List Nat, i ∉ us → wipe (σ.set i x) us = (wipe σ us).set i x := by
          intro us hu
          induction us with
          | nil => rfl
          | cons u us ih =>
            unfold wipe
            rw [ih (fun z => hu (List.mem_cons_of_mem _ z)), List.set_comm _ _ (fun z => hu (by simp [z]))]
        rw [this vs h2, List.set_set]
    · rw [wipe_set ((List.mem_cons.mp h).resolve_left e)]
def pNm (i : Nat) : D → En → Option En := fun d en => some (en.set i (.val d))
def pNil : List D → En → Option En
  | [], en => some en
  | _, _ => none
def pCons (g : D → En → Option En) (h : List D → En → Option En) : List D → En → Option En
  | d :: ds, en => (g d en).bind (h ds)
  | [], _ => none
def pTup (h : List D → En → Option En) : D → En → Option En
  | .tuple ds, en => h ds en
  | _, _ => none
section
variable {X : Cx} {pos : Pos} {vs : List Nat} {e : Expr} {es : List Expr} {g : D → En → Option En} {h : List D → En → Option En}
theorem pgWk {t t' : TG} (k : PG X e t) (w : ∀ v σ H Q, t' v σ H Q → t v σ H Q) : PG X e t' := ⟨fun pins s σ H v u Q I r q => k.run pins s σ H v u Q I r (w _ _ _ _ q)⟩
theorem pgsWk {t t' : TGs} (k : PGs X es t) (w : ∀ v σ H Q, t' v σ H Q → t v σ H Q) : PGs X es t' := ⟨fun pins s σ H v u Q I r q => k.run pins s σ H v u Q I r (w _ _ _ _ q)⟩
theorem vg_nm {i : Nat} {x : Str} (hN : X.N.Nodup) (hi : X.N[i]? = some x := by rfl) (hx : Loc X.env.scope x := by first | exact Or.inl rfl | exact Or.inr rfl) (hv : i ∈ vs := by decide)
    (hf : X.fn x = true ∨ X.env.scope.names.lookup x = some .local := by first | exact .inl rfl | exact .inr rfl) : VG X (.Name x pos) vs (pNm i) := fun B => pgWk (pg_name hN hi hx hf) fun v σ H Q ⟨F, en, d, S, r, en', e1, q⟩ => by
  cases e1
  exact q _ (S.store (s := .val d) r) (wipe_set hv)
theorem vgs_nil : VGs X [] vs pNil := fun B => pgsWk pgs_nil fun us σ H Q ⟨F, en, ds, S, r, en', e1, q⟩ => by
  cases ds with
  | nil =>
    cases r
    cases e1
    exact ⟨rfl, q σ S rfl⟩
  | cons d ds => cases e1
theorem vgs_cons (h1 : VG X e vs g) (h2 : VGs X es vs h) (hs : (assignEach (e :: es) X.env).map (·.2) = assign e X.env :: (assignEach es X.env).map (·.2) := by rfl) : VGs X (e :: es) vs (pCons g h) := fun B =>
  pgsWk (pgs_cons (h1 B) (h2 B) hs) fun us σ H Q ⟨F, en, ds, S, r, en', e1, q⟩ => by
    cases ds with
    | nil => cases e1
    | cons d ds =>
      cases r with
      | cons r rr =>
        obtain ⟨en1, g1, g2⟩ := Option.bind_eq_some_iff.mp e1
        exact ⟨_, _, rfl, F, en, d, S, r, en1, g1, fun σ1 S1 w1 => ⟨F, en1, ds, S1, rr, en', g2, fun σ2 S2 w2 => q σ2 S2 (w2.trans w1)⟩⟩
theorem vg_tup {k : Nat} (hc : X.calm = true) (hh : VGs X es vs h) {n : Nat} (hlen : ∀ ds en en', h ds en = some en' → ds.length = n) (hn : (assignEach es X.env).length = n := by rfl)
    (hst : (assignEach es X.env).findIdx? (·.1) = none := by rfl) : VG X (.Tuple es k pos) vs (pTup h) := fun B => pgWk (pg_tup hc (hh B) hn hst) fun v σ H Q ⟨F, en, d, S, r, en', e1, q⟩ => by
  cases d with
  | tuple ds =>
    cases r with
    | tup r1 r2 => exact ⟨_, _, rfl, sqT_mono S.sub r1, (dps_len r2).trans (hlen _ _ _ e1), F, en, ds, S, r2, en', e1, q⟩
  | _ => cases e1
theorem pNil_len (ds : List D) (en en' : En) (h : pNil ds en = some en') : ds.length = 0 := by
  cases ds with
  | nil => rfl
  | cons _ _ => cases h
theorem pCons_len {n : Nat} (hh : ∀ ds en en', h ds en = some en' → ds.length = n) (ds : List D) (en en' : En) (e : pCons g h ds en = some en') : ds.length = n + 1 := by
  cases ds with
  | nil => cases e
  | cons d ds =>
    obtain ⟨en1, g1, g2⟩ := Option.bind_eq_some_iff.mp e
    rw [List.length_cons, hh _ _ _ g2]
end
end Mv

namespace Mv
open L2 PySem.Spec PySem PyProof.Rows

inductive Fl where
  | nx
  | rt (r : Sl)
  | bk
  | ct
abbrev MS := En → R Fl
section
variable {K : PySem.W.Frag} {mg : Str → Option Value} {B : Bs} {W : WX} {F F1 : Hp}
def PostS (K : PySem.W.Frag) (mg : Str → Option Value) (B : Bs) (W : WX) (F : Hp) (Dn : Ends) : R Fl → Prop
  | .ok .nx en' => ∀ σ' F' H', Sim K B σ' en' F' H' → Same F F' → Dn.nx σ' H'
  | .ok (.rt r) en' => ∀ σ' F' H' v, Sim K B σ' en' F' H' → Same F F' → Rl K B σ' en' F' H' v r → Dn.rt v H'
  | .ok .bk en' => ∀ σ' F' H', Sim K B σ' en' F' H' → Same F F' → Dn.bk σ' H'
  | .ok .ct en' => ∀ σ' F' H', Sim K B σ' en' F' H' → Same F F' → Dn.ct σ' H'
  | .exc c fs en' => ∀ σ' F' H' cls d, Sim K B σ' en' F' H' → Same F F' → RX K mg F' H' c fs cls d → W cls d σ' H'
  | .bad => False
theorem PostS.up {Dn : Ends} {r : R Fl} (p : PostS K mg B W F Dn r) (s : Same F F1) : PostS K mg B W F1 Dn r := by
  cases r with
  | ok a e =>
    cases a with
    | nx => exact fun σ' F' H' S q => p σ' F' H' S (s.trans q)
    | rt r => exact fun σ' F' H' v S q => p σ' F' H' v S (s.trans q)
    | bk => exact fun σ' F' H' S q => p σ' F' H' S (s.trans q)
    | ct => exact fun σ' F' H' S q => p σ' F' H' S (s.trans q)
  | exc c fs e => exact fun σ' F' H' cls d S q => p σ' F' H' cls d S (s.trans q)
  | bad => exact p
/-- an expression, then a statement's end -/
theorem PostS.bind {α : Type} {σ : L2.St} {Dn : Ends} {r : R α} {g : α → En → R Fl} (p : PostS K mg B W F Dn (r.bind g)) : Post K mg B W σ F (fun a en1 F1 _ => PostS K mg B W F1 Dn (g a en1)) r := by
  cases r with
  | ok a e => exact fun F' H' S q => PostS.up p q
  | exc c fs e => exact fun F' H' cls d S q => p σ F' H' cls d S q
  | bad => exact p
def tS (K : PySem.W.Frag) (mg : Str → Option Value) (B : Bs) (W : WX) (g : MS) : TS := fun Dn σ H => ∃ F en, Sim K B σ en F H ∧ PostS K mg B W F Dn (g en)
end
def VS (X : Cx) (W : WX) (st : Stmt) (g : MS) : Prop := ∀ B, PS X st (tS X.K X.mg B W g)
def VSs (X : Cx) (W : WX) (st : List Stmt) (g : MS) : Prop := ∀ B, PSs X st (tS X.K X.mg B W g)

def sNil : MS := fun en => .ok .nx en
def sSeq (g h : MS) : MS := fun en => match g en with
  | .ok .nx e => h e
  | r => r
section
variable {X : Cx} {W : WX} {st : Stmt} {rest : List Stmt} {g h : MS} {pos : Pos} {e : Expr} {f : M Sl}
theorem vss_nil : VSs X W [] sNil := fun B => pssWk pss_nil fun Dn σ H ⟨F, en, S, p⟩ => p σ F H S (.refl _)
theorem vss_cons (h1 : VS X W st g) (h2 : VSs X W rest h) : VSs X W (st :: rest) (sSeq g h) := fun B => pssWk (pss_cons (h1 B) (h2 B)) fun Dn σ H ⟨F, en, S, p⟩ => by
  refine ⟨F, en, S, ?_⟩
  unfold sSeq at p
  cases hg : g en with
  | ok a e =>
    rw [hg] at p
    cases a with
    | nx => exact fun σ' F' H' S' s' => ⟨F', e, S', p.up s'⟩
    | rt r => exact p
    | bk => exact p
    | ct => exact p
  | exc c fs e => rw [hg] at p; exact p
  | bad => rw [hg] at p; exact p
theorem vss_one (h1 : VS X W st g) : VSs X W [st] g := fun B => pss_one (h1 B)
def sSet (i : Nat) (f : M Sl) : MS := fun en => (f en).bind fun r e => .ok .nx (e.set i r)
theorem rd_set {B : Bs} (i : Nat) : ∀ Dn σ H, tS X.K X.mg B W (sSet i f) Dn σ H → tAsg (tV X.K X.mg B W f) (gName i) Dn σ H := fun Dn σ H ⟨F, en, S, p⟩ =>
  ⟨F, en, S, (PostS.bind p).imp fun r en1 F1 H1 S1 s1 q v rv => q _ F1 H1 (S1.store rv) (.refl _)⟩
theorem vs_set {i : Nat} {x : Str} {pos' : Pos} (hN : X.N.Nodup) (he : VE X W e f) (hi : X.N[i]? = some x := by rfl) (hx : Loc X.env.scope x := by first | exact Or.inl rfl | exact Or.inr rfl) (hs : swapsWith e (some (.Name x pos')) pos.line X.env = pure false := by rfl)
    (hf : X.fn x = true ∨ X.env.scope.names.lookup x = some .local := by first | exact .inl rfl | exact .inr rfl) : VS X W (.Assign [.Name x pos'] e pos) (sSet i f) := fun B =>
  psWk (ps_set hN hi hx (he B) hs hf) (rd_set i)
def sRet (f : M Sl) : MS := fun en => (f en).bind fun r e => .ok (.rt r) e
theorem vs_ret (he : VE X W e f) : VS X W (.Return (some e) pos) (sRet f) := fun B => psWk (ps_ret (he B)) fun Dn σ H ⟨F, en, S, p⟩ =>
  ⟨F, en, S, (PostS.bind p).imp fun r en1 F1 H1 S1 s1 q v rv => q σ F1 H1 v S1 (.refl _) rv⟩
theorem Sim.forget {K : PySem.W.Frag} {B : Bs} {σ : L2.St} {en : En} {F H : Hp} (S : Sim K B σ en F H) (i : Nat) : Sim K B σ (en.set i .no) F H := by
  have key : ∀ j s, (en.set i .no)[j]? = some s → s = .no ∨ (j ≠ i ∧ en[j]? = some s) := fun j s hj => by
    rw [List.getElem?_set] at hj
    by_cases e : i = j
    · rw [if_pos e] at hj
      split at hj
      · exact .inl (Option.some.inj hj).symm
      · cases hj
    · rw [if_neg e] at hj
      exact .inr ⟨fun z => e z.symm, hj⟩
  refine ⟨by rw [List.length_set]; exact S.len, S.sub, S.f0, S.new, S.kp, S.z, fun j d hj => ?_, fun j b xs hj => ?_, fun j k a hjk hj hk => ?_⟩
  · rcases key j _ hj with z | ⟨_, z⟩
    · cases z
    · exact S.val j d z
  · rcases key j _ hj with z | ⟨_, z⟩
    · cases z
    · exact S.own j b xs z
  · obtain ⟨b, xs, hj⟩ := hj
    obtain ⟨b2, xs2, hk⟩ := hk
    rcases key j _ hj with z | ⟨_, z⟩
    · cases z
    · rcases key k _ hk with z2 | ⟨_, z2⟩
      · cases z2
      · exact S.apart j k a hjk ⟨_, _, z⟩ ⟨_, _, z2⟩
/-- return of a name: an own list is handed on as it is -/
def sRetV (i : Nat) : MS := fun en => match en[i]? with
  | some (.val d) => .ok (.rt (.val d)) en
  | some (.own false xs) => .ok (.rt (.own false xs)) (en.set i .no)
  | _ => .bad
theorem vs_retv (i : Nat) {x : Str} {p : Pos} (hN : X.N[i]? = some x := by rfl) (hv : Vis X.env.scope x := by first | exact Or.inl rfl | exact Or.inr (Or.inl rfl) | exact Or.inr (Or.inr rfl)) (hd : (x == ("__debug__" : Str)) = false := by decide)
    (hcd : (x == ("__classdict__" : Str)) = false := by decide) : VS X W (.Return (some (.Name x p)) pos) (sRetV i) := fun B => psWk (ps_ret (pe_var hN hv hd hcd)) fun Dn σ H ⟨F, en, S, p⟩ => by
  unfold sRetV at p
  split at p
  · rename_i d hh
    obtain ⟨v, h1, h2⟩ := S.val i d hh
    exact ⟨v, h1, p σ F H v S (.refl _) h2⟩
  · rename_i xs hh
    obtain ⟨a, vs, h1, h2, h3, h4, h5, h6, _⟩ := S.own i _ xs hh
    refine ⟨_, h1, p σ F H _ (S.forget i) (.refl _) ⟨rfl, a, vs, rfl, h2, h3, h4, h5, h6 rfl, fun j hj e => ?_⟩⟩
    rcases isOwn_set hj with ⟨_, _, _, z⟩ | ⟨hji, hj⟩
    · cases z
    · exact S.apart i j a (Ne.symm hji) (isOwn_out hh) hj h1 e
  · exact p.elim
def sIf (c : M Bool) (g h : MS) : MS := fun en => (c en).bind fun b e => if b = true then g e else h e
theorem vs_if {c : Expr} {a b : List Stmt} {t : M Bool} (hc : VB X W c t) (ha : VSs X W a g) (hb : VSs X W b h) : VS X W (.If c a b pos) (sIf t g h) := fun B => psWk (ps_if (hc B) (ha B) (hb B)) fun Dn σ H ⟨F, en, S, p⟩ => by
  refine ⟨F, en, S, (PostS.bind p).imp fun k en1 F1 H1 S1 s1 q => ?_⟩
  cases k with
  | true => rw [if_pos rfl] at q ⊢; exact ⟨F1, en1, S1, q⟩
  | false => rw [if_neg Bool.false_ne_true] at q ⊢; exact ⟨F1, en1, S1, q⟩
/-- pattern = value -/
def sAsg (pat : D → En → Option En) (f : M Sl) : MS := fun en => (vD f en).bind fun d e => match pat d e with
  | some e2 => .ok .nx e2
  | none => .bad
theorem vs_asg {tg : Expr} {vs : List Nat} {pat : D → En → Option En} (he : VE X W e f) (hg : VG X tg vs pat) (hs : swapsWithSole [tg] e pos.line X.env = pure false := by rfl) (hw : swappedStores [tg] e X.env = pure none := by rfl)
    (h1 : (assignEach [tg] X.env).map (·.2) = [assign tg X.env] := by rfl) : VS X W (.Assign [tg] e pos) (sAsg pat f) := fun B => psWk (ps_asg (he.d B) (hg B) hs hw h1) fun Dn σ H ⟨F, en, S, p⟩ => by
  refine ⟨F, en, S, (PostS.bind p).imp fun d en1 F1 H1 S1 s1 q v rv => ?_⟩
  cases hp : pat d en1 with
  | none => rw [hp] at q; exact q.elim
  | some e2 =>
    rw [hp] at q
    exact ⟨F1, en1, d, S1, rv, e2, hp, fun σ' S' _ => q σ' F1 H1 S' (.refl _)⟩

/-! ### loops -/
def forL (pat : D → En → Option En) (body : MS) : List D → MS
  | [], e => .ok .nx e
  | d :: ds, e => match pat d e with
    | none => .bad
    | some e1 => match body e1 with
      | .ok .nx e2 => forL pat body ds e2
      | .ok .ct e2 => forL pat body ds e2
      | .ok .bk e2 => .ok .nx e2
      | .ok (.rt r) e2 => .ok (.rt r) e2
      | .exc c fs e2 => .exc c fs e2
      | .bad => .bad
def sFor (it : M (List D)) (pat : D → En → Option En) (body : MS) : MS := fun en => (it en).bind fun xs e => forL pat body xs e
theorem vs_for {tg iter : Expr} {body : List Stmt} {it : M (List D)} {pat : D → En → Option En} {vs : List Nat} {gb : MS} (hc : X.calm = true) (hp : PassesOwn (model X.prog X.w) X.A X.env X.xe) (hi : VI X W tg iter it) (hg : VG X tg vs pat) (hb : VSs X W body gb)
    (hs : ∀ x, foldedSetIterable iter X.env x = pure x := by intro _; rfl) : VS X W (.For tg iter body [] pos) (sFor it pat gb) := fun B => psWk (ps_for hp hc (hi B) (hg B) (hb B) hs) fun Dn σ H ⟨F, en, S, p⟩ => by
  refine ⟨F, en, S, (PostS.bind p).imp fun xs en1 F1 H1 S1 s1 q J wk => ?_⟩
  obtain ⟨G, Y, wlk, hG, hY⟩ := wk
  refine for_it wlk (fun i σ2 H2 => ∃ F2 en2, Sim X.K B σ2 en2 F2 H2 ∧ Same F1 F2 ∧ PostS X.K X.mg B W F2 Dn (forL pat gb (xs.drop i) en2)) ⟨F1, en1, S1, .refl _, q⟩ (fun i σ2 H2 _ ⟨F2, en2, S2, z, _⟩ => hG F2 H2 z S2.sub S2.kp) (fun i x σ2 H2 H3 hi pv y => ?_) fun σ2 H2 pv => ?_
  · obtain ⟨F2, en2, S2, z, q2⟩ := pv
    obtain ⟨F3, gr, d, hd, dv⟩ := hY i F2 H2 x H3 hi z S2.sub S2.kp y
    have e1 : xs.drop i = d :: xs.drop (i + 1) := by
      rw [List.drop_eq_getElem_cons hi]
      rw [List.getElem?_eq_getElem hi] at hd
      rw [Option.some.inj hd]
    rw [e1] at q2
    unfold forL at q2
    have S3 := S2.gr gr
    have z3 := z.trans gr.ff
    have q3 := q2.up gr.ff
    cases hpt : pat d en2 with
    | none => rw [hpt] at q3; exact q3.elim
    | some e3 =>
      rw [hpt] at q3
      refine ⟨F3, en2, d, S3, dv, e3, hpt, fun σ4 S4 _ => ⟨F3, e3, S4, ?_⟩⟩
      dsimp only at q3
      cases hb : gb e3 with
      | ok a e4 =>
        rw [hb] at q3
        cases a with
        | nx => exact fun σ5 F5 H5 S5 s5 => ⟨F5, e4, S5, z3.trans s5, q3.up s5⟩
        | ct => exact fun σ5 F5 H5 S5 s5 => ⟨F5, e4, S5, z3.trans s5, q3.up s5⟩
        | bk => exact q3
        | rt r => exact q3
      | exc c fs e4 => rw [hb] at q3; exact q3
      | bad => rw [hb] at q3; exact q3
  · obtain ⟨F2, en2, S2, z, q2⟩ := pv
    rw [List.drop_length] at q2
    exact q2 σ2 F2 H2 S2 (.refl _)
def whileL (c : M Bool) (body : MS) : Nat → MS
  | 0, _ => .bad
  | n + 1, e => (c e).bind fun b e1 => if b = true then (match body e1 with
      | .ok .nx e2 => whileL c body n e2
      | .ok .ct e2 => whileL c body n e2
      | .ok .bk e2 => .ok .nx e2
      | .ok (.rt r) e2 => .ok (.rt r) e2
      | .exc c fs e2 => .exc c fs e2
      | .bad => .bad) else .ok .nx e1
/-! ### own lists changed -/
/-- the own list in a slot, with its address -/
theorem Sim.slotL {K : PySem.W.Frag} {B : Bs} {σ : L2.St} {en : En} {F H : Hp} {i : Nat} {b : Bool} {xs : List D} (S : Sim K B σ en F H) (h : en[i]? = some (.own b xs)) : ∃ a vs, σ[i]? = some (some (.ref a)) ∧ H a = some (.lst vs) ∧ DpAll K F vs xs ∧ vs.length = xs.length :=
  let ⟨a, vs, h1, h2, _, h4, _⟩ := S.own i b xs h
  ⟨a, vs, h1, h2, h4, dps_len h4⟩
def ownAt (i : Nat) (e : En) (k : Bool → List D → R Fl) : R Fl := match e[i]? with
  | some (.own b xs) => k b xs
  | _ => .bad
variable {a : Expr} {fa fb : M Sl} {x : Str} {p apos cpos : Pos}
/-- x.append(e) -/
def sApp (i : Nat) (f : M Sl) : MS := fun en => ownAt i en fun _ _ => (vD f en).bind fun d e => ownAt i e fun b xs => if xs.length < LIM then .ok .nx (e.set i (.own b (xs ++ [d]))) else .bad
theorem vs_app {i : Nat} (he : VE X W e f) (hN : X.N[i]? = some x := by rfl) (hv : Vis X.env.scope x := by first | exact Or.inl rfl | exact Or.inr (Or.inl rfl)) (hd : (x == ("__debug__" : Str)) = false := by decide)
    (hcd : (x == ("__classdict__" : Str)) = false := by decide) (hbase : attributeBase (.Name x p) "append" X.env (eval (.Name x p) X.env) = eval (.Name x p) X.env := by rfl)
    (hfew : ((backTo cpos (starEach [e] X.env)).all (fun x => !x.1) && (backToKw cpos (keywordEach [] X.env)).all (fun x => x.1.isSome) && decide ([e].length + ([] : List Keyword).length + (if ([] : List Keyword).isEmpty then 0 else 1) < 30)) = true := by rfl)
    (hline : (apos.endLine == cpos.line) = true := by rfl) (hst : starEach [e] X.env = (false, eval e X.env) :: starEach [] X.env := by rfl) (hsw : swapsWith (.Call (.Attribute (.Name x p) "append" apos) [e] [] cpos) none pos.line X.env = pure false := by rfl) :
    VS X W (.Expr (.Call (.Attribute (.Name x p) "append" apos) [e] [] cpos) pos) (sApp i f) := fun B =>
  psWk (ps_expr (pe_bm PySem.F.plainAttrs_list PySem.F.slot_list_append PySem.F.type_list_append mt_append (pe_var hN hv hd hcd) (pa_cons (he.d B) pa_nil hst) hbase hfew hline hst) hsw) fun Dn σ H ⟨F, en, S, q⟩ => by
    unfold sApp ownAt at q
    split at q
    · rename_i b0 xs0 h0
      obtain ⟨a0, vs0, e0, l0, _, _⟩ := S.slotL h0
      refine ⟨_, e0, .inl ⟨rfl, vs0, .inl (.inl l0)⟩, F, en, S, (PostS.bind q).imp fun d en1 F1 H1 S1 s1 q1 v rv => ?_⟩
      split at q1
      · rename_i b xs h1
        obtain ⟨a1, vs, e1, l1, r1, len⟩ := S1.slotL h1
        rw [e0] at e1
        cases e1
        dsimp only at q1
        split at q1
        · rename_i hl
          refine ⟨_, vs, v, rfl, rfl, l1, by rw [len]; exact lim_lt (Nat.le_of_lt hl), ?_⟩
          exact q1 σ F1 _ (S1.change h1 e0 l1 (dps_app r1 (dps_one rv))) (.refl _)
        · exact q1.elim
      · exact q1.elim
    · exact q.elim
/-- x.insert(k, e) -/
def sIns (i : Nat) (g : M (List D)) : MS := fun en => ownAt i en fun _ _ => (g en).bind fun ds e => ownAt i e fun b xs => match ds with
  | [.int k, d] => if xs.length < LIM ∧ 0 ≤ k ∧ k < 1000000000 then .ok .nx (e.set i (.own b (xs.take k.toNat ++ [d] ++ xs.drop k.toNat))) else .bad
  | _ => .bad
theorem vs_ins {i : Nat} {e2 : Expr} {g2 : M (List D)} (he : VDs X W [e, e2] g2) (hN : X.N[i]? = some x := by rfl) (hv : Vis X.env.scope x := by first | exact Or.inl rfl | exact Or.inr (Or.inl rfl)) (hd : (x == ("__debug__" : Str)) = false := by decide)
    (hcd : (x == ("__classdict__" : Str)) = false := by decide) (hbase : attributeBase (.Name x p) "insert" X.env (eval (.Name x p) X.env) = eval (.Name x p) X.env := by rfl)
    (hfew : ((backTo cpos (starEach [e, e2] X.env)).all (fun x => !x.1) && (backToKw cpos (keywordEach [] X.env)).all (fun x => x.1.isSome) && decide ([e, e2].length + ([] : List Keyword).length + (if ([] : List Keyword).isEmpty then 0 else 1) < 30)) = true := by rfl)
    (hline : (apos.endLine == cpos.line) = true := by rfl) (hst : starEach [e, e2] X.env = (false, eval e X.env) :: starEach [e2] X.env := by rfl) (hpl : (backTo cpos (starEach [e2] X.env)).any (·.1) = false := by rfl)
    (hsw : swapsWith (.Call (.Attribute (.Name x p) "insert" apos) [e, e2] [] cpos) none pos.line X.env = pure false := by rfl) :
    VS X W (.Expr (.Call (.Attribute (.Name x p) "insert" apos) [e, e2] [] cpos) pos) (sIns i g2) := fun B =>
  psWk (ps_expr (pe_bm PySem.F.plainAttrs_list PySem.F.slot_list_insert PySem.F.type_list_insert mt_insert (pe_var hN hv hd hcd) (he B) hbase hfew hline hst hpl) hsw) fun Dn σ H ⟨F, en, S, q⟩ => by
    unfold sIns ownAt at q
    split at q
    · rename_i b0 xs0 h0
      obtain ⟨a0, vs0, e0, l0, _, _⟩ := S.slotL h0
      refine ⟨_, e0, .inl ⟨rfl, vs0, .inl (.inl l0)⟩, F, en, S, (PostS.bind q).imp fun ds en1 F1 H1 S1 s1 q1 us rv => ?_⟩
      split at q1
      · rename_i b xs h1
        obtain ⟨a1, vs, e1, l1, r1, len⟩ := S1.slotL h1
        rw [e0] at e1
        cases e1
        dsimp only at q1
        split at q1
        · rename_i k d
          split at q1
          · rename_i hl
            cases rv with
            | cons ra rr =>
              cases rr with
              | cons rb rr =>
                cases rr
                cases ra
                rename_i v
                refine ⟨_, vs, k, v, rfl, rfl, l1, by rw [len]; exact lim_lt (Nat.le_of_lt hl.1), hl.2.1, by omega, ?_⟩
                exact q1 σ F1 _ (S1.change h1 e0 l1 (dps_app (dps_app (dps_take _ r1) (dps_one rb)) (dps_drop _ r1))) (.refl _)
          · exact q1.elim
        · exact q1.elim
      · exact q1.elim
    · exact q.elim
/-- x[k] = e -/
def setAt (i : Nat) (k : D) (d : D) (e : En) : R Fl := ownAt i e fun b xs => match k with
  | .int k => match ixN xs.length k with
    | some j => .ok .nx (e.set i (.own b (xs.set j d)))
    | none => .bad
  | _ => .bad
def sStore (i : Nat) (fk f : M Sl) : MS := fun en => (vD f en).bind fun d e => ownAt i e fun _ _ => (vD fk e).bind fun k e2 => setAt i k d e2
theorem setAt_ok {K : PySem.W.Frag} {mg : Str → Option Value} {B : Bs} {σ : L2.St} {en : En} {F H : Hp} {Dn : Ends} {i : Nat} {k d : D} {y v : V} (S : Sim K B σ en F H) (rk : Dp K F y k) (rd : Dp K F v d) (p : PostS K mg B W F Dn (setAt i k d en)) :
    ∃ a, σ[i]? = some (some (.ref a)) ∧ rSetL (.ref a) y v H (fun H' => Dn.nx σ H') := by
  unfold setAt ownAt at p
  split at p
  · rename_i b xs h1
    obtain ⟨a1, vs, e1, l1, r1, len⟩ := S.slotL h1
    dsimp only at p
    split at p
    · rename_i z
      split at p
      · rename_i j hj
        cases rk
        exact ⟨a1, e1, a1, vs, z, j, rfl, rfl, l1, by rw [len]; exact hj, p σ F _ (S.change h1 e1 l1 (dps_set rd j r1)) (.refl _)⟩
      · exact p.elim
    · exact p.elim
  · exact p.elim
theorem vs_store {i : Nat} {ek : Expr} {p2 : Pos} (he : VE X W e f) (hk : VE X W ek fa) (hN : X.N[i]? = some x := by rfl) (hv : Vis X.env.scope x := by first | exact Or.inl rfl | exact Or.inr (Or.inl rfl)) (hd : (x == ("__debug__" : Str)) = false := by decide)
    (hcd : (x == ("__classdict__" : Str)) = false := by decide)
    (ha : ∀ v, assign (.Subscript (.Name x p) ek p2) X.env v = (do
      let ov ← holding [v] (eval (.Name x p) X.env)
      let iv ← holding [v, ov] (eval ek X.env)
      standAt p2
      holding [v, ov,
                                                                                                                    iv] (setItem ov iv v)
      release [v, ov, iv] []) := by intro _; rfl)
    (hs : swapsWithSole [.Subscript (.Name x p) ek p2] e pos.line X.env = pure false := by rfl) (hw : swappedStores [.Subscript (.Name x p) ek p2] e X.env = pure none := by rfl)
    (h1 : (assignEach [.Subscript (.Name x p) ek p2] X.env).map (·.2) = [assign (.Subscript (.Name x p) ek p2) X.env] := by rfl) :
    VS X W (.Assign [.Subscript (.Name x p) ek p2] e pos) (sStore i fa f) := fun B =>
  psWk (ps_asg (he.d B) (pg_sub (pe_var hN hv hd hcd) (hk.d B) set_list ha) hs hw h1) fun Dn σ H ⟨F, en, S, q⟩ => by
    refine ⟨F, en, S, (PostS.bind q).imp fun d en1 F1 H1 S1 s1 q1 v rv => ?_⟩
    unfold ownAt at q1
    split at q1
    · rename_i b0 xs0 h0
      obtain ⟨a0, vs0, e0, _⟩ := S1.slotL h0
      refine ⟨_, e0, F1, en1, S1, (PostS.bind q1).imp fun k en2 F2 H2 S2 s2 q2 y ry => ?_⟩
      obtain ⟨a, e1, z⟩ := setAt_ok S2 ry (dp_mono s2 rv) q2
      rw [e0] at e1
      cases e1
      exact z
    · exact q1.elim
end
end Mv

namespace Mv
open L2 PySem.Spec PySem PyProof.Rows

/-! ### list comprehensions -/
def W0 : WX := fun _ _ _ _ => False
def noX {α : Type} : R α → R α
  | .ok a e => .ok a e
  | _ => .bad
@[simp] theorem noX_ok {α : Type} (a : α) (e : En) : noX (.ok a e) = .ok a e := rfl
def wipeE (en : En) : List Nat → En
  | [] => en
  | v :: vs => (wipeE en vs).set v .no
/-- the entries at vs as they stood in e -/
def backE (E e : En) : List Nat → En
  | [] => E
  | v :: vs => (backE E e vs).set v (e.getD v .no)
def noOwn (e : En) : List Nat → Bool
  | [] => true
  | v :: vs => (match e[v]? with | some (.own _ _) => false | _ => true) && noOwn e vs
theorem noOwn_ok {e : En} : ∀ {vs : List Nat}, noOwn e vs = true → ∀ i ∈ vs, ¬ isOwn e i
  | v :: vs, h, i, hi, ⟨b, xs, ho⟩ => by
    simp only [noOwn, Bool.and_eq_true] at h
    rcases List.mem_cons.mp hi with rfl | hi
    · rw [ho] at h; exact absurd h.1 (by simp)
    · exact noOwn_ok h.2 i hi ⟨b, xs, ho⟩
theorem wipeE_len (e : En) : ∀ vs : List Nat, (wipeE e vs).length = e.length
  | [] => rfl
  | v :: vs => by unfold wipeE; rw [List.length_set, wipeE_len e vs]
theorem backE_len (E e : En) : ∀ vs : List Nat, (backE E e vs).length = E.length
  | [] => rfl
  | v :: vs => by unfold backE; rw [List.length_set, backE_len E e vs]
theorem wipeE_get {e : En} {i : Nat} : ∀ {vs : List Nat}, i ∉ vs → (wipeE e vs)[i]? = e[i]?
  | [], _ => rfl
  | v :: vs, h => by
    unfold wipeE
    rw [List.getElem?_set_ne (fun z => h (by simp [z])), wipeE_get (fun z => h (List.mem_cons_of_mem _ z))]
theorem wipeE_at {e : En} {i : Nat} {s : Sl} : ∀ {vs : List Nat}, i ∈ vs → (wipeE e vs)[i]? = some s → s = .no
  | v :: vs, h, hs => by
    unfold wipeE at hs
    rw [List.getElem?_set] at hs
    by_cases e' : v = i
    · rw [if_pos e'] at hs
      split at hs
      · exact (Option.some.inj hs).symm
      · cases hs
    · rw [if_neg e'] at hs
      exact wipeE_at ((List.mem_cons.mp h).resolve_left (Ne.symm e')) hs
theorem backE_get {E e : En} {i : Nat} : ∀ {vs : List Nat}, i ∉ vs → (backE E e vs)[i]? = E[i]?
  | [], _ => rfl
  | v :: vs, h => by
    unfold backE
    rw [List.getElem?_set_ne (fun z => h (by simp [z])), backE_get (fun z => h (List.mem_cons_of_mem _ z))]
theorem backE_at {E e : En} {i : Nat} {s : Sl} : ∀ {vs : List Nat}, i ∈ vs → (backE E e vs)[i]? = some s → s = e.getD i .no
  | v :: vs, h, hs => by
    unfold backE at hs
    rw [List.getElem?_set] at hs
    by_cases e' : v = i
    · rw [if_pos e'] at hs
      split at hs
      · rw [← e']; exact (Option.some.inj hs).symm
      · cases hs
    · rw [if_neg e'] at hs
      exact backE_at ((List.mem_cons.mp h).resolve_left (Ne.symm e')) hs
theorem wipe_getN {σ : L2.St} {i : Nat} : ∀ {vs : List Nat}, i ∉ vs → (wipe σ vs)[i]? = σ[i]?
  | [], _ => rfl
  | v :: vs, h => by
    unfold wipe
    rw [List.getElem?_set_ne (fun z => h (by simp [z])), wipe_getN (fun z => h (List.mem_cons_of_mem _ z))]

theorem wipe_at2 {σ : L2.St} {i : Nat} : ∀ {vs : List Nat}, i ∈ vs → (wipe σ vs)[i]? = if i < σ.length then some none else none
  | v :: vs, h => by
    unfold wipe
    rw [List.getElem?_set]
    by_cases e' : v = i
    · subst e'; rw [if_pos rfl, wipe_length]
    · rw [if_neg e']
      exact wipe_at2 ((List.mem_cons.mp h).resolve_left (Ne.symm e'))
theorem wipe_wipe (σ : L2.St) (vs : List Nat) : wipe (wipe σ vs) vs = wipe σ vs := by
  refine List.ext_getElem? fun i => ?_
  by_cases h : i ∈ vs
  · rw [wipe_at2 h, wipe_at2 h, wipe_length]
  · rw [wipe_getN h]
/-- a further thing that is to be kept: the list that a comprehension makes, or a list handed on -/
def Bs.more (B : Bs) (F : Hp) (a : Addr) (vs : List V) : Bs := ⟨F, upd B.Kp a (.lst vs), fun c => B.Z c ∨ c = a, B.io⟩
section
variable {K : PySem.W.Frag} {B : Bs} {σ : L2.St} {en : En} {F F0 H : Hp} {a : Addr} {us : List V}
theorem Sim.under (S : Sim K B σ en F H) (h0 : Same F0 F) (h0n : ∀ c o, F c = some o → F0 c = some o ∨ (¬ B.Z c ∧ c ≠ a)) (h1 : H a = some (.lst us)) (h3 : ∀ i, isOwn en i → σ[i]? ≠ some (some (.ref a))) : Sim K (B.more F0 a us) σ en F H := by
  refine ⟨S.len, S.sub, h0, fun c o e => ?_, fun c o e => ?_, fun c z e => ?_, S.val, fun i b xs e => ?_, S.apart⟩
  · rcases h0n c o e with q | ⟨q1, q2⟩
    · exact .inl q
    · exact .inr fun z => z.elim q1 q2
  · have e' : upd B.Kp a (.lst us) c = some o := e
    by_cases hc : c = a
    · subst hc; rw [upd_same] at e'; cases e'; exact h1
    · rw [upd_ne hc] at e'; exact S.kp _ _ e'
  · rcases z with z | z
    · exact S.z c z e
    · rw [z, h1] at e; cases e
  · obtain ⟨c, vs, e1, e2, e3, e4, e5, e6, e7⟩ := S.own i b xs e
    have hca : c ≠ a := fun z => h3 i ⟨_, _, e⟩ (z ▸ e1)
    refine ⟨c, vs, e1, e2, e3, e4, ?_, fun hb z => ?_, e7⟩
    · show upd B.Kp a (.lst us) c = none
      rw [upd_ne hca]; exact e5
    · exact z.elim (e6 hb) hca
/-- out of it again -/
theorem Sim.outer (S : Sim K (B.more F0 a us) σ en F H) (h0 : Same B.F F0) (h0n : ∀ c o, F0 c = some o → B.F c = some o ∨ ¬ B.Z c) (hk : B.Kp a = none) (h0a : F0 a = none) :
    Sim K B σ en F H ∧ H a = some (.lst us) ∧ F a = none ∧ (∀ i, isOwn en i → σ[i]? ≠ some (some (.ref a))) := by
  have ow : ∀ (i : Nat) (b : Bool) (xs : List D), en[i]? = some (Sl.own b xs) → ∃ (c : Addr) (vs : List V), σ[i]? = some (some (V.ref c)) ∧ H c = some (.lst vs) ∧ F c = none ∧ DpAll K F vs xs ∧ (B.Kp c = none ∧ c ≠ a) ∧ (b = false → ¬ B.Z c) ∧ (b = true → B.io c) := fun i b xs e => by
    obtain ⟨c, vs, e1, e2, e3, e4, e5, e6, e7⟩ := S.own i b xs e
    have e5' : upd B.Kp a (.lst us) c = none := e5
    have hca : c ≠ a := fun z => by rw [z, upd_same] at e5'; cases e5'
    rw [upd_ne hca] at e5'
    exact ⟨c, vs, e1, e2, e3, e4, ⟨e5', hca⟩, fun hb z => e6 hb (.inl z), e7⟩
  refine ⟨⟨S.len, S.sub, h0.trans S.f0, fun c o e => ?_, fun c o e => ?_, fun c z => S.z c (.inl z), S.val, fun i b xs e => ?_, S.apart⟩, ?_, ?_, fun i hi e => ?_⟩
  · rcases S.new c o e with q | q
    · exact h0n c o q
    · exact .inr fun z => q (.inl z)
  · exact S.kp c o (show upd B.Kp a (.lst us) c = some o by rw [upd_ne (fun z => by rw [z, hk] at e; cases e)]; exact e)
  · obtain ⟨c, vs, e1, e2, e3, e4, e5, e6⟩ := ow i b xs e
    exact ⟨c, vs, e1, e2, e3, e4, e5.1, e6⟩
  · exact S.kp a _ (show upd B.Kp a (.lst us) a = _ from upd_same)
  · cases q : F a with
    | none => rfl
    | some o =>
      rcases S.new a o q with z | z
      · have z' : F0 a = some o := z
        rw [h0a] at z'; cases z'
      · exact absurd (.inr rfl) z
  · obtain ⟨b, xs, hi⟩ := hi
    obtain ⟨c, vs, e1, _, _, _, e5, _⟩ := ow i b xs hi
    rw [e] at e1; cases e1
    exact e5.2 rfl
theorem Sim.wiped (S : Sim K B σ en F H) (vs : List Nat) : Sim K B (wipe σ vs) (wipeE en vs) F H := by
  have key : ∀ j s, (wipeE en vs)[j]? = some s → s = .no ∨ (j ∉ vs ∧ en[j]? = some s) := fun j s h => by
    by_cases hj : j ∈ vs
    · exact .inl (wipeE_at hj h)
    · exact .inr ⟨hj, by rw [wipeE_get hj] at h; exact h⟩
  refine ⟨by rw [wipe_length, wipeE_len]; exact S.len, S.sub, S.f0, S.new, S.kp, S.z, fun j d h => ?_, fun j b xs h => ?_, fun j k c hjk hj hk e1 e2 => ?_⟩
  · rcases key j _ h with z | ⟨n, z⟩
    · cases z
    · obtain ⟨v, q⟩ := S.val j d z
      exact ⟨v, by rw [wipe_getN n]; exact q.1, q.2⟩
  · rcases key j _ h with z | ⟨n, z⟩
    · cases z
    · obtain ⟨c, ws, q⟩ := S.own j b xs z
      exact ⟨c, ws, by rw [wipe_getN n]; exact q.1, q.2⟩
  · obtain ⟨b, xs, hj⟩ := hj
    obtain ⟨b2, xs2, hk⟩ := hk
    rcases key j _ hj with z | ⟨n, z⟩
    · cases z
    · rcases key k _ hk with z2 | ⟨n2, z2⟩
      · cases z2
      · rw [wipe_getN n] at e1
        rw [wipe_getN n2] at e2
        exact S.apart j k c hjk ⟨_, _, z⟩ ⟨_, _, z2⟩ e1 e2
theorem Sim.back {E : En} {vs : List Nat} (S : Sim K B (wipe σ vs) E F H) (hl : σ.length = en.length) (ho : ∀ i ∈ vs, ¬ isOwn en i) (hv : ∀ i ∈ vs, ∀ d, en[i]? = some (.val d) → ∃ v, σ[i]? = some (some v) ∧ Dp K F v d) : Sim K B σ (backE E en vs) F H := by
  have key : ∀ j s, (backE E en vs)[j]? = some s → (j ∈ vs ∧ s = en.getD j .no) ∨ (j ∉ vs ∧ E[j]? = some s) := fun j s h => by
    by_cases hj : j ∈ vs
    · exact .inl ⟨hj, backE_at hj h⟩
    · exact .inr ⟨hj, by rw [backE_get hj] at h; exact h⟩
  have old : ∀ j s, s ≠ .no → s = en.getD j .no → en[j]? = some s := fun j s hn e => by
    rw [List.getD_eq_getElem?_getD] at e
    cases q : en[j]? with
    | none => rw [q] at e; exact absurd e hn
    | some t => rw [q] at e; rw [e]; rfl
  refine ⟨?_, S.sub, S.f0, S.new, S.kp, S.z, fun j d h => ?_, fun j b xs h => ?_, fun j k c hjk hj hk e1 e2 => ?_⟩
  · rw [backE_len, ← S.len, wipe_length]
  · rcases key j _ h with ⟨m, z⟩ | ⟨n, z⟩
    · exact hv j m d (old j _ (fun q => by cases q) z)
    · obtain ⟨v, q⟩ := S.val j d z
      exact ⟨v, by rw [wipe_getN n] at q; exact q.1, q.2⟩
  · rcases key j _ h with ⟨m, z⟩ | ⟨n, z⟩
    · exact absurd ⟨b, xs, old j _ (fun q => by cases q) z⟩ (ho j m)
    · obtain ⟨c, ws, q⟩ := S.own j b xs z
      exact ⟨c, ws, by rw [wipe_getN n] at q; exact q.1, q.2⟩
  · obtain ⟨b, xs, hj⟩ := hj
    obtain ⟨b2, xs2, hk⟩ := hk
    rcases key j _ hj with ⟨m, z⟩ | ⟨n, z⟩
    · exact ho j m ⟨b, xs, old j _ (fun q => by cases q) z⟩
    · rcases key k _ hk with ⟨m, z2⟩ | ⟨n2, z2⟩
      · exact ho k m ⟨b2, xs2, old k _ (fun q => by cases q) z2⟩
      · rw [← wipe_getN n] at e1
        rw [← wipe_getN n2] at e2
        exact S.apart j k c hjk ⟨_, _, z⟩ ⟨_, _, z2⟩ e1 e2
end

/-- the turns of a comprehension -/
def lcL (pat : D → En → Option En) (tt : M Bool) (el : M Sl) (vs : List Nat) : List D → En → R (List D)
  | [], e => .ok [] e
  | d :: ds, e => match pat d e with
    | none => .bad
    | some e1 => (noX (tt e1)).bind fun b e2 => if b = true then (noX (vD el e2)).bind fun y e3 => (lcL pat tt el vs ds (wipeE e3 vs)).bind fun ys e4 => .ok (y :: ys) e4 else lcL pat tt el vs ds (wipeE e2 vs)
def vLc (it : M (List D)) (pat : D → En → Option En) (tt : M Bool) (el : M Sl) (vs : List Nat) : M Sl := fun en => (it en).bind fun xs e => if noOwn e vs = true ∧ xs.length ≤ LIM then
  (match lcL pat tt el vs xs (wipeE e vs) with
    | .ok ys e' => .ok (.own false ys) (backE e' e vs)
    | _ => .bad) else .bad
/-- one turn's reading in the block -/
def VTs (X : Cx) (W : WX) (ifs : List Expr) (f : M Bool) : Prop := ∀ B, PTs X ifs (tBl X.K X.mg B W f)
def bYes : M Bool := fun en => .ok true en
section
variable {X : Cx} {W : WX}
theorem ptsWk {ifs : List Expr} {t t' : TT} (h : PTs X ifs t) (w : ∀ σ H Q, t' σ H Q → t σ H Q) : PTs X ifs t' := ⟨fun pins s σ H Q I q => h.run pins s σ H Q I (w _ _ _ q)⟩
theorem vts_nil : VTs X W [] bYes := fun B => ptsWk pts_nil fun σ H Q ⟨F, en, S, p⟩ => p F H S (.refl _)
theorem vts_one {c : Expr} {f : M Bool} (h : VB X W c f) : VTs X W [c] f := fun B => pts_one (h B)
variable {elt tg iter : Expr} {ifs : List Expr} {scope : Scope} {own : List (Str × Nat)} {pos : Pos} {it : M (List D)} {pat : D → En → Option En} {tt : M Bool} {el : M Sl}
/-- the reading of a comprehension, from those of its parts -/
theorem rd_lc {K : PySem.W.Frag} {mg : Str → Option Value} {B : Bs} {vs : List Nat} {wi : TI} {g : TG} {tb : TT} {te : TE} {σ : L2.St} {H : Hp} {Q : VK}
    (hwi : ∀ R, tI K mg B W it σ H R → wi σ H R) (hg : ∀ B v σ H Q, tG K B vs pat v σ H Q → g v σ H Q) (ht : ∀ B σ H Q, tBl K mg B W0 tt σ H Q → tb σ H Q) (he : ∀ B σ H Q, tD K mg B W0 (vD el) σ H Q → te σ H Q)
    (h : tV K mg B W (vLc it pat tt el vs) σ H Q) : tLc wi g tb te vs σ H Q := by
  obtain ⟨F, en, S, p⟩ := h
  refine hwi _ ⟨F, en, S, (Post.bind p).imp fun xs en1 F1 H1 S1 s1 q J wk Dd hD => ?_⟩
  obtain ⟨G, Y, wlk, hG, hY⟩ := wk
  split at q
  · rename_i hh
    obtain ⟨hno, hlim⟩ := hh
    have hF1 : F1 Dd = none := S1.sub.free hD
    have hKD : B.Kp Dd = none := S1.kp.free hD
    have hZD : ¬ B.Z Dd := fun z => S1.z Dd z hD
    cases hr : lcL pat tt el vs xs (wipeE en1 vs) with
    | exc c fs e => rw [hr] at q; exact q.elim
    | bad => rw [hr] at q; exact q.elim
    | ok YS E' =>
      rw [hr] at q
      -- between two turns
      let Pv : Nat → Hp → Prop := fun i H2 => ∃ F2 en2 acc accD ys, Sim K (B.more F1 Dd acc) (wipe σ vs) en2 F2 H2 ∧ DpAll K F2 acc accD ∧ accD.length ≤ i ∧ lcL pat tt el vs (xs.drop i) en2 = .ok ys E' ∧ accD ++ ys = YS
      have h0 : Pv 0 (upd H1 Dd (.lst [])) := by
        refine ⟨F1, wipeE en1 vs, [], [], YS, ?_, .nil, Nat.le_refl _, by rw [List.drop_zero]; exact hr, rfl⟩
        have S2 := (S1.gr (Gr.made (o := .lst []) S1.sub hD)).wiped vs
        refine S2.under (.refl _) (fun c o e => .inl e) upd_same fun i hi e => ?_
        obtain ⟨b, zs, hi⟩ := hi
        obtain ⟨c, ws, e1, e2, _⟩ := (S1.wiped vs).own i b zs hi
        rw [e] at e1; cases e1
        rw [hD] at e2; cases e2
      refine lc_it wlk Pv h0 (fun i H2 _ ⟨F2, en2, acc, accD, ys, S2, _⟩ => hG F2 H2 S2.f0 S2.sub ((same_upd hKD).trans S2.kp)) (fun i x H2 H3 hi pv y => ?_) fun H2 pv => ?_
      · obtain ⟨F2, en2, acc, accD, ys, S2, ra, hla, hl, hys⟩ := pv
        obtain ⟨F3, gr, d, hd, dv⟩ := hY i F2 H2 x H3 hi S2.f0 S2.sub ((same_upd hKD).trans S2.kp) y
        have e1 : xs.drop i = d :: xs.drop (i + 1) := by
          rw [List.drop_eq_getElem_cons hi]
          rw [List.getElem?_eq_getElem hi] at hd
          rw [Option.some.inj hd]
        rw [e1] at hl
        unfold lcL at hl
        have S3 := S2.gr gr
        cases hpt : pat d en2 with
        | none => rw [hpt] at hl; cases hl
        | some e3 =>
          rw [hpt] at hl
          dsimp only at hl
          refine hg _ x _ _ _ ⟨F3, en2, d, S3, dv, e3, hpt, fun σ4 S4 w4 => ⟨w4.trans (wipe_wipe σ vs), ?_⟩⟩
          have w5 : wipe σ4 vs = wipe σ vs := w4.trans (wipe_wipe σ vs)
          refine ht (B.more F1 Dd acc) σ4 H3 _ ⟨F3, e3, S4, ?_⟩
          cases hb : tt e3 with
          | exc c fs e => rw [hb] at hl; cases hl
          | bad => rw [hb] at hl; cases hl
          | ok b e4 =>
            rw [hb] at hl
            simp only [noX_ok, R.bind_ok] at hl
            intro F5 H5 S5 s5
            cases b with
            | false =>
              rw [if_neg Bool.false_ne_true] at hl ⊢
              have S6 := S5.wiped vs
              rw [w5] at S6
              exact ⟨F5, wipeE e4 vs, acc, accD, ys, S6, dps_mono (gr.ff.trans s5) ra, Nat.le_succ_of_le hla, hl, hys⟩
            | true =>
              rw [if_pos rfl] at hl ⊢
              refine he (B.more F1 Dd acc) σ4 H5 _ ⟨F5, e4, S5, ?_⟩
              cases hel : vD el e4 with
              | exc c fs e => rw [hel] at hl; cases hl
              | bad => rw [hel] at hl; cases hl
              | ok y5 e5 =>
                rw [hel] at hl
                simp only [noX_ok, R.bind_ok] at hl
                intro F7 H7 S7 s7 v7 r7
                cases hrest : lcL pat tt el vs (xs.drop (i + 1)) (wipeE e5 vs) with
                | exc c fs e => rw [hrest] at hl; cases hl
                | bad => rw [hrest] at hl; cases hl
                | ok ys2 E2 =>
                  rw [hrest] at hl
                  simp only [R.bind_ok, R.ok.injEq] at hl
                  obtain ⟨rfl, rfl⟩ := hl
                  obtain ⟨S8, hD8, hF8, hn8⟩ := S7.outer (h0 := S1.f0) (h0n := S1.new) hKD hF1
                  have hlen : acc.length = accD.length := dps_len ra
                  refine ⟨acc, hD8, by rw [hlen]; exact lim_lt (by omega), F7, wipeE e5 vs, acc ++ [v7], accD ++ [y5], ys2, ?_, dps_app (dps_mono (gr.ff.trans (s5.trans s7)) ra) (dps_one r7), by rw [List.length_append, List.length_singleton]; omega, hrest, by rw [List.append_assoc]; exact hys⟩
                  have S9 : Sim K B σ4 e5 F7 (upd H7 Dd (.lst (acc ++ [v7]))) := by
                    refine ⟨S8.len, same_upd2 S8.sub hF8, S8.f0, S8.new, same_upd2 S8.kp hKD, fun c z => ?_, S8.val, fun k b zs hk => ?_, S8.apart⟩
                    · rw [upd_ne (fun (e : c = Dd) => hZD (by rw [← e]; exact z))]; exact S8.z c z
                    · obtain ⟨c, ws, q1, q2, q3⟩ := S8.own k b zs hk
                      refine ⟨c, ws, q1, ?_, q3⟩
                      rw [upd_ne (fun (e : c = Dd) => hn8 k ⟨_, _, hk⟩ (by rw [← e]; exact q1))]
                      exact q2
                  have S10 := S9.wiped vs
                  rw [w5] at S10
                  refine S10.under S7.f0 (fun c o e => ?_) upd_same fun k hk e => ?_
                  · rcases S7.new c o e with z | z
                    · exact .inl z
                    · exact .inr ⟨fun w => z (.inl w), fun w => z (.inr w)⟩
                  · obtain ⟨b, zs, hk⟩ := hk
                    have hkv : k ∉ vs := fun m => by
                      have := wipeE_at m hk
                      cases this
                    rw [wipeE_get hkv] at hk
                    rw [← w5, wipe_getN hkv] at e
                    exact hn8 k ⟨_, _, hk⟩ e
      · obtain ⟨F2, en2, acc, accD, ys, S2, ra, hla, hl, hys⟩ := pv
        rw [List.drop_length] at hl
        unfold lcL at hl
        simp only [R.ok.injEq] at hl
        obtain ⟨rfl, rfl⟩ := hl
        rw [List.append_nil] at hys
        subst hys
        obtain ⟨S3, hD3, hF3, hn3⟩ := S2.outer (h0 := S1.f0) (h0n := S1.new) hKD hF1
        have S4 : Sim K B σ (backE en2 en1 vs) F2 H2 := S3.back S1.len (noOwn_ok hno) fun i hi d hd => by
          obtain ⟨v, q1, q2⟩ := S1.val i d hd
          exact ⟨v, q1, dp_mono S2.f0 q2⟩
        refine q F2 H2 S4 S2.f0 (.ref Dd) ⟨rfl, Dd, acc, rfl, hD3, hF3, ra, hKD, hZD, fun i hi e => ?_⟩
        obtain ⟨b, zs, hi⟩ := hi
        by_cases hiv : i ∈ vs
        · have z := backE_at hiv hi
          refine noOwn_ok hno i hiv ⟨b, zs, ?_⟩
          rw [List.getD_eq_getElem?_getD] at z
          cases q5 : en1[i]? with
          | none => rw [q5] at z; cases z
          | some t => rw [q5] at z; rw [z]; rfl
        · rw [backE_get hiv] at hi
          rw [← wipe_getN hiv] at e
          exact hn3 i ⟨_, _, hi⟩ e
  · exact q.elim
end
end Mv

namespace Mv
open L2 PySem.Spec PySem PyProof.Rows

section
variable {X : Cx} {W : WX} {elt tg iter : Expr} {ifs : List Expr} {scope : Scope} {own : List (Str × Nat)} {pos : Pos} {it : M (List D)} {pat : D → En → Option En} {tt : M Bool} {el : M Sl}
theorem pgBlk {sh : Shared} {Hq : Hp} {ce : Env} {fp : List Addr} {e : Expr} {vs : List Nat} {g : D → En → Option En} (h : VG (X.blk sh Hq scope ce fp) e vs g) : PG (X.blk sh Hq scope ce fp) e (fun v σ H Q => ∃ B, tG X.K B vs g v σ H Q) := ⟨fun pins s σ H v u Q I r ⟨B, q⟩ => (h B).run pins s σ H v u Q I r q⟩
theorem ptsBlk {sh : Shared} {Hq : Hp} {ce : Env} {fp : List Addr} {fs : List Expr} {t : M Bool} (h : VTs (X.blk sh Hq scope ce fp) W0 fs t) : PTs (X.blk sh Hq scope ce fp) fs (fun σ H Q => ∃ B, tBl X.K X.mg B W0 t σ H Q) := ⟨fun pins s σ H Q I ⟨B, q⟩ => (h B).run pins s σ H Q I q⟩
theorem peBlk {sh : Shared} {Hq : Hp} {ce : Env} {fp : List Addr} {e : Expr} {f : M Sl} (h : VE (X.blk sh Hq scope ce fp) W0 e f) : PE (X.blk sh Hq scope ce fp) e (fun σ H Q => ∃ B, tD X.K X.mg B W0 (vD f) σ H Q) := ⟨fun pins s σ H Q I ⟨B, q⟩ => (h.d B).run pins s σ H Q I q⟩
theorem ve_lc (own : List (Str × Nat)) (hc : X.calm = true) (hN : X.N.Nodup) (ok : BlkOk X.N X.env.scope scope own) (hi : VI X W tg iter it)
    (hg : ∀ (s : Shared) (H : Hp) (C : Addr) (cl : List (Str × Addr)) (fp : List Addr), VG (X.blk s H scope (compEnvC scope cl C X.env) fp) tg (own.map (·.2)) pat)
    (ht : ∀ (s : Shared) (H : Hp) (C : Addr) (cl : List (Str × Addr)) (fp : List Addr), VTs (X.blk s H scope (compEnvC scope cl C X.env) fp) W0 ifs tt)
    (he : ∀ (s : Shared) (H : Hp) (C : Addr) (cl : List (Str × Addr)) (fp : List Addr), VE (X.blk s H scope (compEnvC scope cl C X.env) fp) W0 elt el) (hs : ∀ x, foldedSetIterable iter X.env x = pure x := by intro _; rfl) :
    VE X W (.ListComp elt [⟨tg, iter, ifs, 0⟩] scope pos) (vLc it pat tt el (own.map (·.2))) := fun B =>
  peWk (pe_lc hc hN (hi B) ok (fun s H C cl fp => pgBlk (hg s H C cl fp)) (fun s H C cl fp => ptsBlk (ht s H C cl fp)) (fun s H C cl fp => peBlk (he s H C cl fp)) hs) fun σ H Q h =>
    rd_lc (fun _ h => h) (fun B _ _ _ _ h => ⟨B, h⟩) (fun B _ _ _ h => ⟨B, h⟩) (fun B _ _ _ h => ⟨B, h⟩) h
end

/-! ### calls of defs -/
inductive Out where
  | ret (r : Sl)
  | exc (c : Str) (fs : List (Str × D))
def spV (K : PySem.W.Frag) (mg : Str → Option Value) (m : List D → Option Out) : Sp := fun vs H Q E => ∃ F ds, Same F H ∧ DpAll K F vs ds ∧ match m ds with
  | some (.ret r) => ∀ F' H' v, Gr F H F' H' → RlF K F' H H' v r → Q v H'
  | some (.exc c fs) => ∀ F' H' cls d, Gr F H F' H' → RX K mg F' H' c fs cls d → E cls d H'
  | none => False
/-- room, and no repr under way -/
structure RoomG (k : Nat) (A : Around) : Prop where
  r : Room k A
  g : A.guards = some []
theorem RoomG.mono {j k : Nat} {A : Around} (h : RoomG k A) (le : j ≤ k) : RoomG j A := ⟨h.r.mono le, h.g⟩
/-- a def keeps a promise, where no repr is under way -/
structure FnG (P : Program) (w : World) (K : PySem.W.Frag) (mg : Str → Option Value) (base : Heap) (k : Nat) (f : Addr) (fd : FuncData) (ps : List Str) (sp : Sp) : Prop where
  len : ∀ vs H Q E,
                                                                                                                sp vs H Q E → vs.length = ps.length
  run : ∀ (A : Around) (outer : List Env) (s : Shared) (H : Hp) (args : Args) (us : List Value) (vs : List V) (Q : VK) (E : XK), RoomG k A → Env0 P w K mg base A outer s H → BindsTo s fd args (ps.zip us) → Vals vs us →
    sp vs H Q E → codeAny (model P w) A (.call (.ref f) args) (CR (L2.CX P w) outer P w H s Q E) s
theorem FnG.mono {P : Program} {w : World} {K : PySem.W.Frag} {mg : Str → Option Value} {base : Heap} {j k : Nat} {f : Addr} {fd : FuncData} {ps : List Str} {sp : Sp} (F : FnG P w K mg base j f fd ps sp) (le : j ≤ k) : FnG P w K mg base k f fd ps sp :=
  ⟨F.len, fun A outer s H args us vs Q E hr => F.run A outer s H args us vs Q E (hr.mono le)⟩
section
variable {X : Cx} {k : Nat} {f : Addr} {fd : FuncData} {ps : List Str} {sp : Sp} {E : L2.St → XK} {x : Str} {p pos : Pos} {e : Expr} {es : List Expr} {t : TA}
theorem runG {pins : List (Addr × Obj)} {σ : L2.St} {H : Hp} {s : Shared} {Q : VK} {us : List Value} {vs : List V} (F : FnG X.prog X.w X.K X.mg X.base k f fd ps sp) (hr : RoomG k X.A) (hb : Binds X.K fd ps []) (hx : PassesAt (L2.CX X.prog X.w) X σ (E σ))
    (I : Inv X pins σ H s) (r : Vals vs us) (h : sp vs H Q (E σ)) : wpAny
                                                                                                                  (model X.prog X.w) X.A (call (.ref f) us) (EP X pins σ Q) X.xe s := by
  have hl : us.length = ps.length := r.length.symm.trans (F.len _ _ _ _ h)
  have bd := hb s us I.kIn (by rw [List.append_nil]; exact hl)
  rw [List.append_nil] at bd
  refine wpAny_call (codeAny_mono (F.run X.A X.stack s H ⟨us, []⟩ us vs Q (E σ) hr I.env0 bd r h) fun res s2 hq => ?_)
  rcases res with e | (u | _ | _ | _) <;> first | exact hx pins H s _ s2 I hq | exact I.after hq | exact False.elim hq
theorem pe_callG (F : FnG X.prog X.w X.K X.mg X.base k f fd ps sp) (hr : RoomG k X.A) (hg : Gl X x) (hm : X.mg x = some (.ref f)) (hk : PySem.W.keepIn X.K (.ref f) = true) (hb : Binds X.K fd ps []) (hx : ∀ σ, PassesAt (L2.CX X.prog X.w) X σ (E σ))
    (ha : PA X (e :: es) t) (hdb : (x == ("__debug__" : Str)) = false) (he : starEach (e :: es) X.env = (false, eval e X.env) :: starEach es X.env) (hpl : (backTo pos (starEach es X.env)).any (·.1) = false) :
    PE X (.Call (.Name x p) (e :: es) [] pos) (tCallS sp E t) := ⟨fun pins s σ H Q I h => wpAny_Call_Name_kw (ld_glob I hg hm
      (PySem.W.callWith_K (h₀ := X.base) I.ok.mod.kin hk (thn (ha.run pos pins s σ H _ I h) fun us s1 ⟨vs, H1, I1, r, q⟩ => ⟨I1.kIn, runG F hr hb (hx σ) I1 r q⟩) he hpl) hdb)⟩
theorem fnG_of {P : Program} {w : World} {K : PySem.W.Frag} {mg : Str → Option Value} {base : Heap} {x qual : Str} {st : Stmt} {N : List Str} (F : Fun K x qual st f fd) (S : FnScope N ps (defScope st)) (len : ∀ vs H Q E, sp vs H Q E → vs.length = ps.length)
    (hbody : ∀ (cdv : Value) (A : Around) (outer : List Env) (s : Shared) (H : Hp) (vs : List V) (Q : VK) (E : XK), RoomG k (A.deeper (envOfC qual (defScope st) s.heap.objs.size f cdv)) → sp vs H Q E →
      ∃ t, PSs (cxOf (L2.CX P w) P w K mg base N qual (defScope st) f cdv A outer s H E) (defBody st) t ∧ t { nx := fun _ H' => Q .non H', rt := Q } (L2.start N vs) H) : FnG P w K mg base (k + 1) f fd ps sp := by
  obtain ⟨oc, od, kV, dc, pm, an, cdv, ct, osl, rfl, lk, hcd⟩ := F.ex
  refine ⟨len,
                                                                                                                fun A outer s H args us vs Q E hr e0 hb r hsp => ?_⟩
  have hl := len _ _ _ _ hsp
  have keep : ∀ b o, base.get? b = some o → s.heap.get? b = some o := fun b o e => (e0.bs b o e).1
  have lim : s.heap.NoLimit := e0.mod.nolimit.keeps keep
  have KX : K.In s.heap := e0.mod.kin.keeps keep
  refine codeAny_call_function hr.r.depth (KX _ _ lk) rfl S.co S.gen rfl (PySem.W.codeRec_of KX hcd) (hb _ _ _ _ ?_)
  refine wpAny_newFunctionEnv_cells S.kind (fun y hy => ?_) fun env he s1 x => ?_
  · obtain ⟨n, v⟩ := y
    exact (S.par n (List.of_mem_zip hy).1).imp id fun q => ⟨q, PySem.W.cellsFrom_some _ _ _ (.inl q)⟩
  subst he
  obtain ⟨t, ht, hq⟩ := hbody cdv A outer s H vs Q E ⟨hr.r.deeper _, hr.g⟩ hsp
  refine ⟨lim.keeps x.toInCall.keep, codeAny_func (wpAny_mono (ht.run [] s1 _ H _ (inv_start S hr.r.hd e0 hl r x) hq) (fun fl s2 hs => ?_) fun _ _ h => h)⟩
  rcases fl with u | _ | _ | _
  all_goals first
    | (obtain ⟨v, σ', H', J, rv, q⟩ := hs; exact ⟨v, H', J.os, J.bare, J.base, J.hok, rv, q⟩)
    | (obtain ⟨σ', H', J, q⟩ := hs; exact False.elim q)
    | (obtain ⟨σ', H', J, q⟩ := hs; exact ⟨V.non, H', J.os, J.bare, J.base, J.hok, rfl, q⟩)
end
structure FnV (P : Program) (w : World) (K : PySem.W.Frag) (mg : Str → Option Value) (base : Heap) (x : Str) (k : Nat) (m : List D → Option Out) : Prop where
  ex : ∃ (f : Addr) (fd : FuncData) (ps : List Str), FnG P w K mg base k f fd ps (spV K mg m) ∧ mg x = some (.ref f) ∧ PySem.W.keepIn K (.ref f) = true ∧ Binds K fd ps []
theorem FnV.mono {P : Program} {w : World} {K : PySem.W.Frag} {mg : Str → Option Value} {base : Heap} {x : Str} {j k : Nat} {m : List D → Option Out} (F : FnV P w K mg base x j m) (h : j ≤ k) : FnV P w K mg base x k m :=
  let ⟨f, fd, ps, h1, h2⟩ := F.ex
  ⟨f, fd, ps, h1.mono h, h2⟩
/-- the bag: a list that the callee changes, its first argument -/
structure GrB (b : Addr) (F H F' H' : Hp) : Prop where
  ff : Same F F'
  fh : Same F' H'
  hh : ∀ a o, a ≠ b → H a = some o → H' a = some o
  nw : ∀ a o, F' a = some o → F a = some o ∨ H a = none
def spB (K : PySem.W.Frag) (mg : Str → Option Value) (m : List D → List D → Option (Out × List D)) : Sp := fun vs H Q E => ∃ (b : Addr) (vs' ws : List V) (xs : List D) (F : Hp) (ds : List D),
  vs = .ref b :: vs' ∧ H b = some (.lst ws) ∧ F b = none ∧ Same F H ∧ DpAll K F ws xs ∧ DpAll K F vs' ds ∧ match m xs ds with
  | some (.ret r, ys) => ∀ F' H' v ws', GrB b F H F' H' → H' b = some (.lst ws') → DpAll K F' ws' ys → RlF K F' H H' v r → Q v H'
  | some (.exc c fs, ys) => ∀ F' H' cls d ws', GrB b F H F' H' → H' b = some (.lst ws') → DpAll K F' ws' ys → RX K mg F' H' c fs cls d → E cls d H'
  | none => False
structure FnB (P : Program) (w : World) (K : PySem.W.Frag) (mg : Str → Option Value) (base : Heap) (x : Str) (k : Nat) (m : List D → List D → Option (Out × List D)) : Prop where
  ex : ∃ (f : Addr) (fd : FuncData) (ps : List Str), FnG P w K mg base k f fd ps (spB K mg m) ∧ mg x = some (.ref f) ∧ PySem.W.keepIn K (.ref f) = true ∧ Binds K fd ps []
theorem FnB.mono {P : Program} {w : World} {K : PySem.W.Frag} {mg : Str → Option Value} {base : Heap} {x : Str} {j k : Nat} {m : List D → List D → Option (Out × List D)} (F : FnB P w K mg base x j m) (h : j ≤ k) : FnB P w K mg base x k m :=
  let ⟨f, fd, ps, h1, h2⟩ := F.ex
  ⟨f, fd, ps, h1.mono h, h2⟩

/-- what a call gives, in a state -/
def callR (o : Option Out) (e : En) : R Sl := match o with
  | some (.ret r) => .ok r e
  | some (.exc c fs) => .exc c fs e
  | none => .bad
@[simp] theorem callR_ret (r : Sl) (e : En) : callR (some (.ret r)) e = .ok r e := rfl
@[simp] theorem callR_exc (c fs) (e : En) : callR (some (.exc c fs)) e = .exc c fs e := rfl
def vCall (m : List D → Option Out) (g : M (List D)) : M Sl := fun en => (g en).bind fun ds e => callR (m ds) e
section
variable {X : Cx} {W : WX} {e : Expr} {es : List Expr} {x y : Str} {p py pos : Pos} {g : M (List D)} {k : Nat} {m : List D → Option Out} {mb : List D → List D → Option (Out × List D)}
theorem sp_call {B : Bs} {σ : L2.St} {en : En} {F H : Hp} {Q : VK} {vs : List V} {ds : List D} (S : Sim X.K B σ en F H) (rv : DpAll X.K F vs ds) (q : Post X.K X.mg B W σ F (fun r en' F' H' => ∀ v, Rl X.K B σ en' F' H' v r → Q v H') (callR (m ds) en)) :
    spV X.K X.mg m vs H Q (WE W σ) := by
  refine ⟨F, ds, S.sub, rv, ?_⟩
  cases hm : m ds with
  | none => rw [hm] at q; exact q.elim
  | some o =>
    rw [hm] at q
    cases o with
    | ret r => exact fun F' H' v gr h => q F' H' (S.gr gr) gr.ff v (S.res h)
    | exc c fs => exact fun F' H' cls d gr h => q F' H' cls d (S.gr gr) gr.ff h
theorem ve_call (C : FnV X.prog X.w X.K X.mg X.base x k m) (hr : RoomG k X.A) (tk : Takes X W) (ha : VDs X W (e :: es) g)
    (hg : Gl X x := by rfl) (hdb : (x == ("__debug__" : Str)) = false := by decide) (he : starEach (e :: es) X.env = (false, eval e X.env) :: starEach es X.env := by rfl) (hpl : (backTo pos (starEach es X.env)).any (·.1) = false := by rfl) :
    VE X W (.Call (.Name x p) (e :: es) [] pos) (vCall m g) := fun B => by
  obtain ⟨f, fd, ps, FO, hm, hk, hb⟩ := C.ex
  refine peWk (pe_callG (E := WE W) FO hr hg hm hk hb (fun σ => passAt tk σ) (ha B) hdb he hpl) fun σ H Q ⟨F, en, S, q⟩ => ?_
  exact ⟨F, en, S, (Post.bind q).imp fun ds en1 F1 H1 S1 s1 q1 vs rv => sp_call S1 rv q1⟩
/-- f(bag, ..) -/
def callB (i : Nat) (o : Option (Out × List D)) (b : Bool) (e : En) : R Sl := match o with
  | some (.ret r, ys) => .ok r (e.set i (.own b ys))
  | some (.exc c fs, ys) => .exc c fs (e.set i (.own b ys))
  | none => .bad
def ownE {α : Type} (i : Nat) (e : En) (k : Bool → List D → R α) : R α := match e[i]? with
  | some (.own b xs) => k b xs
  | _ => .bad
def vCallB (i : Nat) (m : List D → List D → Option (Out × List D)) (g : M (List D)) : M Sl := fun en => ownE i en fun _ _ => (g en).bind fun ds e => ownE i e fun b xs => callB i (m xs ds) b e
theorem upd_id {H : Hp} {a : Addr} {o : HO} (h : H a = some o) : upd H a o = H := by
  funext c
  by_cases hc : c = a
  · subst hc; rw [upd_same, h]
  · rw [upd_ne hc]
theorem Sim.grB {K : PySem.W.Frag} {B : Bs} {σ : L2.St} {en : En} {F H F' H' : Hp} {i : Nat} {b : Bool} {xs ys : List D} {a : Addr} {vs ws : List V} (S : Sim K B σ en F H) (h : en[i]? = some (.own b xs)) (h1 : σ[i]? = some (some (.ref a))) (h2 : H a = some (.lst vs))
    (h4 : F a = none) (gr : GrB a F H F' H') (h5 : H' a = some (.lst ws)) (h6 : DpAll K F' ws ys) : Sim K B σ (en.set i (.own b ys)) F' H' := by
  have hF' : F' a = none := by
    cases q : F' a with
    | none => rfl
    | some o =>
      rcases gr.nw a o q with z | z
      · rw [h4] at z; cases z
      · rw [h2] at z; cases z
  have g2 : Gr F H F' (upd H' a (.lst vs)) := by
    refine ⟨gr.ff, same_upd2 gr.fh hF', fun c o e => ?_, gr.nw⟩
    by_cases hc : c = a
    · subst hc; rw [upd_same, ← h2]; exact e
    · rw [upd_ne hc]; exact gr.hh c o hc e
  have S3 := (S.gr g2).change (i := i) h h1 upd_same h6
  rw [upd_upd, upd_id h5] at S3
  exact S3
theorem ve_callBag {i : Nat} (C : FnB X.prog X.w X.K X.mg X.base x k mb) (hr : RoomG k X.A) (tk : Takes X W) (ha : VDs X W es g) (hN : X.N[i]? = some y := by rfl) (hv : Vis X.env.scope y := by first | exact Or.inl rfl | exact Or.inr (Or.inl rfl) | exact Or.inr (Or.inr rfl))
    (hd : (y == ("__debug__" : Str)) = false := by decide) (hcd : (y == ("__classdict__" : Str)) = false := by decide)
    (hg : Gl X x := by rfl) (hdb : (x == ("__debug__" : Str)) = false := by decide) (he : starEach (.Name y py :: es) X.env = (false, eval (.Name y py) X.env) :: starEach es X.env := by rfl) (hpl : (backTo pos (starEach es X.env)).any (·.1) = false := by rfl) :
    VE X W (.Call (.Name x p) (.Name y py :: es) [] pos) (vCallB i mb g) := fun B => by
  obtain ⟨f, fd, ps, FO, hm, hk, hb⟩ := C.ex
  refine peWk (pe_callG (E := WE W) FO hr hg hm hk hb (fun σ => passAt tk σ) (pa_cons (pe_var hN hv hd hcd) (ha B) he) hdb he hpl) fun σ H Q ⟨F, en, S, q⟩ => ?_
  unfold vCallB ownE at q
  split at q
  · rename_i b0 xs0 h0
    obtain ⟨a, vs0, e0, l0, f0, _⟩ := S.own i b0 xs0 h0
    refine ⟨_, e0, F, en, S, (Post.bind q).imp fun ds en1 F1 H1 S1 s1 q1 us rv => ?_⟩
    split at q1
    · rename_i b xs h1
      obtain ⟨a1, vs, e1, l1, f1, r1, _⟩ := S1.own i b xs h1
      rw [e0] at e1
      cases e1
      refine ⟨a, us, vs, xs, F1, ds, rfl, l1, f1, S1.sub, r1, rv, ?_⟩
      dsimp only at q1
      unfold callB at q1
      cases hmm : mb xs ds with
      | none => rw [hmm] at q1; exact q1.elim
      | some o =>
        obtain ⟨o, ys⟩ := o
        rw [hmm] at q1
        cases o with
        | ret r =>
          intro F' H' v ws' gr h5 h6 hr2
          refine q1 F' H' (S1.grB h1 e0 l1 f1 gr h5 h6) gr.ff v ?_
          cases r with
          | no => exact hr2
          | val d => exact hr2
          | own b2 zs =>
            obtain ⟨rfl, c, us2, rfl, z1, z2, z3, z4⟩ := hr2
            refine ⟨rfl, c, us2, rfl, z1, z2, z3, S1.kp.free z4, fun z => S1.z c z z4, fun j hj e => ?_⟩
            have hj' : isOwn en1 j := by
              rcases isOwn_set hj with ⟨q, _⟩ | ⟨_, q⟩
              · rw [q]; exact isOwn_out h1
              · exact q
            obtain ⟨b3, us3, hj3⟩ := hj'
            obtain ⟨c', _, w1, w2, _⟩ := S1.own j b3 us3 hj3
            rw [e] at w1; cases w1
            rw [z4] at w2; cases w2
        | exc c fs => exact fun F' H' cls d ws' gr h5 h6 hx => q1 F' H' cls d (S1.grB h1 e0 l1 f1 gr h5 h6) gr.ff hx
    · exact q1.elim
  · exact q.elim
end

/-! ### a def keeps its promise -/
def startE (n : Nat) (ds : List D) : En := ds.map Sl.val ++ List.replicate (n - ds.length) .no
def outOf : R Fl → Option Out
  | .ok (.rt r) _ => some (.ret r)
  | .ok .nx _ => some (.ret (.val .none))
  | .exc c fs _ => some (.exc c fs)
  | _ => none
def outB : R Fl → Option (Out × List D)
  | .ok (.rt r) e => (match (e[0]? : Option Sl) with
    | some (.own true ys) => some (.ret r, ys)
    | _ => none)
  | .ok .nx e => (match (e[0]? : Option Sl) with
    | some (.own true ys) => some (.ret (.val .none), ys)
    | _ => none)
  | .exc c fs e => (match (e[0]? : Option Sl) with
    | some (.own true ys) => some (.exc c fs, ys)
    | _ => none)
  | _ => none
section
variable {K : PySem.W.Frag} {mg : Str → Option Value} {F H : Hp}
def bs0 (F H : Hp) : Bs := ⟨F, H, fun a => H a ≠ none, fun _ => False⟩
def bsB (F H : Hp) (b : Addr) : Bs := ⟨F, fun a => if a = b then none else H a, fun a => H a ≠ none, fun a => a = b⟩
theorem start_get {vs : List V} {ds : List D} {n i : Nat} {s : Sl} (h : (startE n ds)[i]? = some s) : (∃ d, s = .val d ∧ ds[i]? = some d) ∨ s = .no := by
  unfold startE at h
  by_cases hi : i < (ds.map Sl.val).length
  · rw [List.getElem?_append_left hi, List.getElem?_map] at h
    cases q : ds[i]? with
    | none => rw [q] at h; cases h
    | some d => rw [q] at h; exact .inl ⟨d, (Option.some.inj h).symm, rfl⟩
  · rw [List.getElem?_append_right (Nat.le_of_not_lt hi), List.getElem?_replicate] at h
    split at h
    · exact .inr (Option.some.inj h).symm
    · cases h
theorem sim_start {N : List Str} {vs : List V} {ds : List D} (s : Same F H) (r : DpAll K F vs ds) (hn : ds.length ≤ N.length) : Sim K (bs0 F H) (L2.start N vs) (startE N.length ds) F H := by
  have hl := dps_len r
  refine ⟨by simp [L2.start, startE, hl], s, .refl _, fun a o e => .inl e, .refl _, fun a z => z, fun i d h => ?_, fun i b xs h => ?_, fun i j a _ hi => ?_⟩
  · rcases start_get (vs := vs) h with ⟨d', e, q⟩ | e
    · cases e
      have hi : i < vs.length := by rw [hl]; exact (List.getElem?_eq_some_iff.mp q).1
      refine ⟨vs[i], ?_, dps_get r (List.getElem?_eq_getElem hi) q⟩
      unfold L2.start
      rw [List.getElem?_append_left (by simpa using hi), List.getElem?_map, List.getElem?_eq_getElem hi]
      rfl
    · cases e
  · rcases start_get (vs := vs) h with ⟨d', e, q⟩ | e <;> cases e
  · obtain ⟨b, xs, h⟩ := hi
    rcases start_get (vs := vs) h with ⟨d', e, q⟩ | e <;> cases e
theorem end_gr {σ : L2.St} {en : En} {F' H' : Hp} (S : Sim K (bs0 F H) σ en F' H') (s : Same F F') : Gr F H F' H' :=
  ⟨s, S.sub, S.kp, fun a o e => (S.new a o e).imp_right fun z => Classical.byContradiction fun q => z q⟩
theorem end_rl {σ : L2.St} {en : En} {F' H' : Hp} {v : V} {r : Sl} (h : Rl K (bs0 F H) σ en F' H' v r) : RlF K F' H H' v r := by
  cases r with
  | no => exact h
  | val d => exact h
  | own b xs =>
    obtain ⟨rfl, a, vs, rfl, h1, h2, h3, h4, h5, _⟩ := h
    exact ⟨rfl, a, vs, rfl, h1, h2, h3, Classical.byContradiction fun q => h5 q⟩
/-- what a promise wants behind the body -/
def wantV (K : PySem.W.Frag) (mg : Str → Option Value) (F H : Hp) (Q : VK) (E : XK) : Option Out → Prop
  | some (.ret r) => ∀ F' H' v, Gr F H F' H' → RlF K F' H H' v r → Q v H'
  | some (.exc c fs) => ∀ F' H' cls d, Gr F H F' H' → RX K mg F' H' c fs cls d → E cls d H'
  | none => False
theorem tS_of {W : WX} {N : List Str} {vs : List V} {ds : List D} {Q : VK} {E : XK} {o : Out} {g : MS} (hW : W = fun cls d _ H => E cls d H) (s : Same F H) (rv : DpAll K F vs ds) (hle : ds.length ≤ N.length) (q : wantV K mg F H Q E (some o))
    (hg : outOf (g (startE N.length ds)) = some o) : tS K mg (bs0 F H) W g { nx := fun _ H' => Q .non H', rt := Q } (L2.start N vs) H := by
  refine ⟨F, _, sim_start s rv hle, ?_⟩
  cases hr : g (startE N.length ds) with
  | bad => rw [hr] at hg; cases hg
  | exc c fs e =>
    rw [hr] at hg
    cases hg
    intro σ' F' H' cls d S' s' hx
    rw [hW]
    exact q F' H' cls d (end_gr S' s') hx
  | ok a e =>
    rw [hr] at hg
    cases a with
    | nx =>
      cases hg
      exact fun σ' F' H' S' s' => q F' H' _ (end_gr S' s') .non
    | rt r =>
      cases hg
      exact fun σ' F' H' v S' s' hr => q F' H' v (end_gr S' s') (end_rl hr)
    | bk => cases hg
    | ct => cases hg
theorem sim_startB {N : List Str} {b : Addr} {vs ws : List V} {xs ds : List D} (s : Same F H) (hb : H b = some (.lst ws)) (fb : F b = none) (rb : DpAll K F ws xs) (r : DpAll K F vs ds) (hn : ds.length + 1 ≤ N.length) :
    Sim K (bsB F H b) (L2.start N (.ref b :: vs)) (.own true xs :: startE (N.length - 1) ds) F H := by
  have hl := dps_len r
  have tl : ∀ i, (L2.start N (.ref b :: vs))[i + 1]? = (vs.map some ++ List.replicate (N.length - 1 - vs.length) none)[i]? := fun i => by
    unfold L2.start
    rw [List.map_cons, List.cons_append, List.getElem?_cons_succ, List.length_cons, show N.length - (vs.length + 1) = N.length - 1 - vs.length by omega]
  refine ⟨by simp [L2.start, startE, hl]; omega, s, .refl _, fun a o e => .inl e, fun a o e => ?_, fun a z => z, fun i d h => ?_, fun i b' zs h => ?_, fun i j a hij hi hj => ?_⟩
  · have e' : (if a = b then none else H a) = some o := e
    split at e'
    · cases e'
    · exact e'
  · cases i with
    | zero => cases h
    | succ i =>
      rw [List.getElem?_cons_succ] at h
      rcases start_get (vs := vs) h with ⟨d', e, q⟩ | e
      · cases e
        have hi : i < vs.length := by rw [hl]; exact (List.getElem?_eq_some_iff.mp q).1
        refine ⟨vs[i], ?_, dps_get r (List.getElem?_eq_getElem hi) q⟩
        rw [tl, List.getElem?_append_left (by simpa using hi), List.getElem?_map, List.getElem?_eq_getElem hi]
        rfl
      · cases e
  · cases i with
    | zero =>
      cases h
      exact ⟨b, ws, rfl, hb, fb, rb, if_pos rfl, (fun z => by cases z), fun _ => rfl⟩
    | succ i =>
      rw [List.getElem?_cons_succ] at h
      rcases start_get (vs := vs) h with ⟨d', e, q⟩ | e <;> cases e
  · have z : ∀ k, isOwn (Sl.own true xs :: startE (N.length - 1) ds) k → k = 0 := fun k ⟨b', zs, h⟩ => by
      cases k with
      | zero => rfl
      | succ k =>
        rw [List.getElem?_cons_succ] at h
        rcases start_get (vs := vs) h with ⟨d', e, q⟩ | e <;> cases e
    exact absurd ((z i hi).trans (z j hj).symm) hij
theorem end_grB {b : Addr} {ws : List V} {σ : L2.St} {en : En} {F' H' : Hp} (S : Sim K (bsB F H b) σ en F' H') (s : Same F F') : GrB b F H F' H' :=
  ⟨s, S.sub, fun a o n e => S.kp a o (show (if a = b then none else H a) = some o by rw [if_neg n]; exact e), fun a o e => (S.new a o e).imp_right fun z => Classical.byContradiction fun q => z q⟩
theorem end_rlB {b : Addr} {σ : L2.St} {en : En} {F' H' : Hp} {v : V} {r : Sl} (h : Rl K (bsB F H b) σ en F' H' v r) : RlF K F' H H' v r := by
  cases r with
  | no => exact h
  | val d => exact h
  | own b' xs =>
    obtain ⟨rfl, a, vs, rfl, h1, h2, h3, h4, h5, _⟩ := h
    exact ⟨rfl, a, vs, rfl, h1, h2, h3, Classical.byContradiction fun q => h5 q⟩
theorem end_bag {b : Addr} {σ : L2.St} {en : En} {F' H' : Hp} {ys : List D} (S : Sim K (bsB F H b) σ en F' H') (h : en[0]? = some (.own true ys)) : ∃ ws, H' b = some (.lst ws) ∧ DpAll K F' ws ys := by
  obtain ⟨a, ws, h1, h2, h3, h4, _, _, h7⟩ := S.own 0 true ys h
  have e : a = b := h7 rfl
  subst e
  exact ⟨ws, h2, h4⟩
def wantB (K : PySem.W.Frag) (mg : Str → Option Value) (b : Addr) (F H : Hp) (Q : VK) (E : XK) : Option (Out × List D) → Prop
  | some (.ret r, ys) => ∀ F' H' v ws', GrB b F H F' H' → H' b = some (.lst ws') → DpAll K F' ws' ys → RlF K F' H H' v r → Q v H'
  | some (.exc c fs, ys) => ∀ F' H' cls d ws', GrB b F H F' H' → H' b = some (.lst ws') → DpAll K F' ws' ys → RX K mg F' H' c fs cls d → E cls d H'
  | none => False
theorem tS_ofB {W : WX} {N : List Str} {b : Addr} {vs ws : List V} {xs ds : List D} {Q : VK} {E : XK} {o : Out × List D} {g : MS} (hW : W = fun cls d _ H => E cls d H) (s : Same F H) (hb : H b = some (.lst ws)) (fb : F b = none) (rb : DpAll K F ws xs) (rv : DpAll K F vs ds)
    (hle : ds.length + 1 ≤ N.length) (q : wantB K mg b F H Q E (some o)) (hg : outB (g (.own true xs :: startE (N.length - 1) ds)) = some o) :
    tS K mg (bsB F H b) W g { nx := fun _ H' => Q .non H', rt := Q } (L2.start N (.ref b :: vs)) H := by
  refine ⟨F, _, sim_startB s hb fb rb rv hle, ?_⟩
  obtain ⟨o, ys⟩ := o
  cases hr : g (.own true xs :: startE (N.length - 1) ds) with
  | bad => rw [hr] at hg; cases hg
  | exc c fs e =>
    rw [hr] at hg
    unfold outB at hg
    dsimp only at hg
    split at hg
    · rename_i zs hz
      cases hg
      intro σ' F' H' cls d S' s' hx
      rw [hW]
      obtain ⟨ws', z1, z2⟩ := end_bag S' hz
      exact q F' H' cls d ws' (end_grB (ws := ws) S' s') z1 z2 hx
    · cases hg
  | ok a e =>
    rw [hr] at hg
    unfold outB at hg
    cases a with
    | nx =>
      dsimp only at hg
      split at hg
      · rename_i zs hz
        cases hg
        intro σ' F' H' S' s'
        obtain ⟨ws', z1, z2⟩ := end_bag S' hz
        exact q F' H' _ ws' (end_grB (ws := ws) S' s') z1 z2 .non
      · cases hg
    | rt r =>
      dsimp only at hg
      split at hg
      · rename_i zs hz
        cases hg
        intro σ' F' H' v S' s' hr
        obtain ⟨ws', z1, z2⟩ := end_bag S' hz
        exact q F' H' v ws' (end_grB (ws := ws) S' s') z1 z2 (end_rlB hr)
      · cases hg
    | bk => cases hg
    | ct => cases hg
end

/-- the context of a def's body -/
abbrev bodyX (P : Program) (w : World) (K : PySem.W.Frag) (mg : Str → Option Value) (base : Heap) (N : List Str) (qual : Str) (st : Stmt) (f : Addr) (cdv : Value) (A : Around) (outer : List Env) (s : Shared) (H : Hp) (E : XK) : Cx :=
  cxOf (L2.CX P w) P w K mg base N qual (defScope st) f cdv A outer s H E
section
variable {P : Program} {w : World} {K : PySem.W.Frag} {mg : Str → Option Value} {base : Heap} {x qual : Str} {st : Stmt} {f : Addr} {fd : FuncData} {N ps : List Str} {k : Nat}
theorem body_takes {cdv : Value} {A : Around} {outer : List Env} {s : Shared} {H : Hp} {E : XK} : Takes (bodyX P w K mg base N qual st f cdv A outer s H E) (fun cls d _ H => E cls d H) := takes_of rfl rfl rfl rfl
/-- a def that changes no list of its caller's; g by fuel -/
theorem fng_mk {m : List D → Option Out} (F : Fun K x qual st f fd) (S : FnScope N ps (defScope st)) (hlen : ∀ ds o, m ds = some o → ds.length = ps.length) (g : Nat → MS)
    (body : ∀ (n : Nat) (cdv : Value) (A : Around) (outer : List Env) (s : Shared) (H : Hp) (E : XK), RoomG k (A.deeper (envOfC qual (defScope st) s.heap.objs.size f cdv)) →
      VSs (bodyX P w K mg base N qual st f cdv A outer s H E) (fun cls d _ H => E cls d H) (defBody st) (g n))
    (eq : ∀ ds o, m ds = some o → ∃ n, outOf (g n (startE N.length ds)) = some o) : FnG P w K mg base (k + 1) f fd ps (spV K mg m) := by
  refine fnG_of F S (fun vs H Q E ⟨F0, ds, _, rv, q⟩ => ?_) (fun cdv A outer s H vs Q E hr h => ?_)
  · cases hmm : m ds with
    | none => rw [hmm] at q; exact q.elim
    | some o => rw [dps_len rv, hlen ds o hmm]
  · have hps : ps.length ≤ N.length := by
      have := congrArg List.length S.pre
      rw [List.length_take] at this
      omega
    obtain ⟨F0, ds, s0, rv, q⟩ := h
    cases hmm : m ds with
    | none => rw [hmm] at q; exact q.elim
    | some o =>
      rw [hmm] at q
      obtain ⟨n, hn⟩ := eq ds o hmm
      refine ⟨_, body n cdv A outer s H E hr (bs0 F0 H), tS_of rfl s0 rv (by rw [hlen ds o hmm]; exact hps) ?_ hn⟩
      cases o <;> exact q
theorem fnv_mk {m : List D → Option Out} (F : Fun K x qual st f fd) (S : FnScope N ps (defScope st)) (hm : mg x = some (.ref f)) (b : Binds K fd ps []) (hlen : ∀ ds o, m ds = some o → ds.length = ps.length) (g : Nat → MS)
    (body : ∀ (n : Nat) (cdv : Value) (A : Around) (outer : List Env) (s : Shared) (H : Hp) (E : XK), RoomG k (A.deeper (envOfC qual (defScope st) s.heap.objs.size f cdv)) →
      VSs (bodyX P w K mg base N qual st f cdv A outer s H E) (fun cls d _ H => E cls d H) (defBody st) (g n))
    (eq : ∀ ds o, m ds = some o → ∃ n, outOf (g n (startE N.length ds)) = some o) : FnV P w K mg base x (k + 1) m := ⟨f, fd, ps, fng_mk F S hlen g body eq, hm, F.kp, b⟩
/-- a def whose first argument is the bag -/
theorem fnb_mk {m : List D → List D → Option (Out × List D)} (F : Fun K x qual st f fd) (S : FnScope N ps (defScope st)) (hm : mg x = some (.ref f)) (b : Binds K fd ps []) (hlen : ∀ xs ds o, m xs ds = some o → ds.length + 1 = ps.length) (g : Nat → MS)
    (body : ∀ (n : Nat) (cdv : Value) (A : Around) (outer : List Env) (s : Shared) (H : Hp) (E : XK), RoomG k (A.deeper (envOfC qual (defScope st) s.heap.objs.size f cdv)) →
      VSs (bodyX P w K mg base N qual st f cdv A outer s H E) (fun cls d _ H => E cls d H) (defBody st) (g n))
    (eq : ∀ xs ds o, m xs ds = some o → ∃ n, outB (g n (.own true xs :: startE (N.length - 1) ds)) = some o) : FnB P w K mg base x (k + 1) m := by
  refine ⟨f, fd, ps, fnG_of F S (fun vs H Q E ⟨b, vs', ws, xs, F0, ds, e, _, _, _, _, rv, q⟩ => ?_) (fun cdv A outer s H vs Q E hr h => ?_), hm, F.kp, b⟩
  · cases hmm : m xs ds with
    | none => rw [hmm] at q; exact q.elim
    | some o => rw [e, List.length_cons, dps_len rv, hlen xs ds o hmm]
  · have hps : ps.length ≤ N.length := by
      have := congrArg List.length S.pre
      rw [List.length_take] at this
      omega
    obtain ⟨b, vs', ws, xs, F0, ds, rfl, hb, fb, s0, rb, rv, q⟩ := h
    cases hmm : m xs ds with
    | none => rw [hmm] at q; exact q.elim
    | some o =>
      rw [hmm] at q
      obtain ⟨n, hn⟩ := eq xs ds o hmm
      refine ⟨_, body n cdv A outer s H E hr (bsB F0 H b), tS_ofB rfl s0 hb fb rb rv (by rw [hlen xs ds o hmm]; exact hps) ?_ hn⟩
      obtain ⟨o, ys⟩ := o
      cases o <;> exact q
end
end Mv

namespace Mv
open L2 PySem.Spec PySem PyProof.Rows

section
variable {X : Cx}
theorem int_of {K : PySem.W.Frag} {F : Hp} {v : V} {i : Int} (h : Dp K F v (.int i)) : v = .int i := by cases h; rfl
theorem str_of {K : PySem.W.Frag} {F : Hp} {v : V} {x : Str} (h : Dp K F v (.str x)) : v = .str x := by cases h; rfl
theorem bl_of {K : PySem.W.Frag} {F : Hp} {v : V} {b : Bool} (h : Dp K F v (.bool b)) : v = .bl b := by cases h; rfl
theorem lst_of {K : PySem.W.Frag} {F : Hp} {v : V} {ds : List D} (h : Dp K F v (.list ds)) : ∃ a xs, v = .ref a ∧ Rd F a (.lst xs) ∧ DpAll K F xs ds := by cases h with | lst a b => exact ⟨_, _, rfl, a, b⟩
theorem tup_of {K : PySem.W.Frag} {F : Hp} {v : V} {ds : List D} (h : Dp K F v (.tuple ds)) : ∃ a xs, v = .ref a ∧ SqT K F a xs ∧ DpAll K F xs ds := by cases h with | tup a b => exact ⟨_, _, rfl, a, b⟩

/-! ### + -/
theorem Inv.rdL {pins : List (Addr × Obj)} {σ : L2.St} {H : Hp} {s : Shared} {a : Addr} {xs : List V} (I : Inv X pins σ H s) (h : Rd H a (.lst xs)) : xs.length ≤ sizeLine ∧ ∃ (its : List Value) (n : Nat), Vals xs its ∧ s.heap.get? a = some { cls := .type "list", data := .seq its.toArray n } := h.ok I.hok
theorem op_catR : OpR X (binaryOp .Add) (fun x y H Q => ∃ l b xs zs, x = .ref l ∧ y = .ref b ∧ Rd H l (.lst xs) ∧ Rd H b (.lst zs) ∧ xs.length + zs.length ≤ sizeLine ∧ ∀ p, H p = none → Q (.ref p) (upd H p (.lst (xs ++ zs)))) := by
  intro pins s σ H x y
  intro v u Q I rx ry h
  obtain ⟨l, b, xs, zs, rfl,
                                                                                                                rfl, hH, hB, hz, q⟩ := h
  cases rx
  cases ry
  obtain ⟨z, its, n, r, e⟩ := Inv.rdL I hH
  obtain ⟨z2, its2, n2, r2, e2⟩ := Inv.rdL I hB
  have l1 := r.length
  have l2 := r2.length
  refine PySem.P.add_list e e2 ?_
                                                                                                                (by rw [List.size_toArray, List.size_toArray]; omega)
  rw [show its.toArray ++ its2.toArray = (its ++ its2).toArray by simp]
  exact ⟨.ref _, _, I.lnew (t' := s.toks) (r.append r2)
                                                                                                                (by rw [List.length_append]; omega), rfl, q _ I.fresh⟩
def dAdd : D → D → Option Sl
  | .int i, .int j => some (.val (.int (i + j)))
  | .str i, .str j => if i.length + j.length ≤ LIM then some (.val (.str (i ++ j))) else none
  | .tuple xs, .tuple ys => if xs.length + ys.length ≤ LIM then some (.val (.tuple (xs ++ ys))) else none
  | .list xs, .list ys => if xs.length + ys.length ≤ LIM then some (.own false (xs ++ ys)) else none
  | _, _ => none
@[simp] theorem dAdd_int (i j : Int) : dAdd (.int i) (.int j) = some (.val (.int (i + j))) := rfl
theorem or4 {f : Value → Value → Sem Value} {r1 r2 r3 r4 : R2} (h1 : OpR X f r1) (h2 : OpR X f r2) (h3 : OpR X f r3) (h4 : OpR X f r4) : OpR X f (fun x y H Q => r1 x y H Q ∨ r2 x y H Q ∨ r3 x y H Q ∨ r4 x y H Q) := h1.or (h2.or (h3.or h4))
theorem ov_of {f : Value → Value → Sem Value} {r : R2} {o : D → D → Option Sl} (h : OpR X f r) (w : ∀ x y H Q F a b, Same F H → Dp X.K F x a → Dp X.K F y b → Kd X.K F H Q (o a b) → r x y H Q) : OV X f o :=
  fun pins s σ H x y v u Q I rx ry ⟨F, a, b, s0, ra, rb, k⟩ => h pins s σ H x y v u Q I rx ry (w x y H Q F a b s0 ra rb k)
theorem ov_add : OV X (binaryOp .Add) dAdd := ov_of (or4 op_add op_add_str op_catA op_catR) fun x y H Q F a b s ra rb k => by
  unfold dAdd at k
  split at k
  · rename_i i j
    rw [int_of ra, int_of rb]
    exact .inl ⟨i, j, rfl, rfl, k.val s (.int _)⟩
  · rename_i i j
    rw [str_of ra, str_of rb]
    split at k
    · rename_i hl
      exact .inr (.inl ⟨i, j, rfl, rfl, lim_line hl, k.val s (.str _)⟩)
    · exact k.elim
  · rename_i xs ys
    split at k
    · rename_i hl
      obtain ⟨a1, us, rfl, h1, r1⟩ := tup_of ra
      obtain ⟨a2, ws, rfl, h2, r2⟩ := tup_of rb
      refine .inr (.inr (.inl ⟨a1, a2, us, ws, rfl, rfl, sqT_mono s h1, sqT_mono s h2, by rw [dps_len r1, dps_len r2]; exact lim_line hl, fun e => ?_, fun _ e => ?_, fun _ _ => k.tup s (dps_app r1 r2)⟩))
      · subst e
        cases r1
        exact k.val s (.tup h2 r2)
      · subst e
        cases r2
        rw [List.append_nil] at k
        exact k.val s (.tup h1 r1)
    · exact k.elim
  · rename_i xs ys
    split at k
    · rename_i hl
      obtain ⟨a1, us, rfl, h1, r1⟩ := lst_of ra
      obtain ⟨a2, ws, rfl, h2, r2⟩ := lst_of rb
      exact .inr (.inr (.inr ⟨a1, a2, us, ws, rfl, rfl, rd_mono s h1, rd_mono s h2, by rw [dps_len r1, dps_len r2]; exact lim_line hl, k.lst s (dps_app r1 r2)⟩))
    · exact k.elim
  · exact k.elim

/-! ### ints -/
def dSub : D → D → Option Sl
  | .int i, .int j => some (.val (.int (i - j)))
  | _, _ => none
@[simp] theorem dSub_int (i j : Int) : dSub (.int i) (.int j) = some (.val (.int (i - j))) := rfl
theorem ov_sub : OV X (binaryOp .Sub) dSub := ov_of op_sub fun x y H Q F a b s ra rb k => by
  unfold dSub at k
  split at k
  · rename_i i j
    rw [int_of ra, int_of rb]
    exact ⟨i, j, rfl, rfl, k.val s (.int _)⟩
  · exact k.elim
/-- a product: both factors small enough -/
def mulOk (i j : Int) : Prop := i.natAbs.log2 + j.natAbs.log2 < 1000000 ∨ (-(2 ^ 64) < i ∧ i < 2 ^ 64) ∨ (-(2 ^ 64) < j ∧ j < 2 ^ 64)
instance (i j : Int) : Decidable (mulOk i j) := inferInstanceAs (Decidable (_ ∨ _))
theorem rep_flat_len {α : Type} (xs : List α) (n : Nat) : (List.replicate n xs).flatten.length = n * xs.length := by simp [List.length_flatten, List.map_replicate]
theorem dps_rep {K : PySem.W.Frag} {F : Hp} {us : List V} {xs : List D} (r : DpAll K F us xs) : ∀ n, DpAll K F (List.replicate n us).flatten (List.replicate n xs).flatten
  | 0 => .nil
  | n + 1 => by
    rw [List.replicate_succ, List.replicate_succ,
                                                                                                                  List.flatten_cons, List.flatten_cons]
    exact dps_app r (dps_rep r n)
theorem op_repR : OpR X (binaryOp .Mult) (fun x y H Q => ∃ l k xs, x = .ref l ∧ y = .int k ∧ Rd H l (.lst xs) ∧ -(2 ^ 63) ≤ k ∧ k < 2 ^ 63 ∧ xs.length * k.toNat ≤ sizeLine ∧ ∀ p, H p = none → Q (.ref p) (upd H p (.lst (List.replicate k.toNat xs).flatten))) := by
  intro pins s σ H x y
  intro v u Q I rx ry h
  obtain ⟨l, k, xs, rfl,
                                                                                                                rfl, hH, h1, h2, hz, q⟩ := h
  rcases hH with hH | ⟨ob, hH⟩
  · exact op_rep pins s σ H _ _ v u Q I rx ry ⟨l, k, xs, rfl, rfl, hH, h1, h2, hz, q⟩
  · -- locked: the same object
    cases rx
    obtain ⟨t, rfl⟩ := ry
    obtain ⟨z, its, n, r, e⟩ := Inv.rdL I (.inr ⟨ob, hH⟩)
    have hl := r.length
    have hlen : its.toArray.size * k.toNat ≤ sizeLine :=
                                                                                                                  by rw [List.size_toArray, ← hl]; exact hz
    have hcap : ¬ its.toArray.size * k.toNat >
                                                                                                                  (2 ^ 63 - 1) / 8 := by
      have : (sizeLine : Nat) ≤
                                                                                                                    (2 ^ 63 - 1) / 8 := by decide
      omega
    have hnew : List.foldl (fun x1 x2 => x1 ++ x2) #[] (List.replicate
                                                                                                                  (if its.toArray.isEmpty = true then 0 else k.toNat) its.toArray) = (List.replicate k.toNat its).flatten.toArray := by
      have f0 := foldl_rep its
      cases its with
      | nil => simp
      | cons a r' => rw [if_neg (by simp)]; exact (f0 k.toNat []).trans (by rw [List.nil_append])
    refine wpAny_binaryOp_repeat_ref (T := "list") (U := "int") (by decide) ⟨_, e, rfl⟩ (fun s' =>
                                                                                                                  typeIs_int s' k t) noFill_list_mul F.fills_int_mul F.slot_int_rmul repeat_list F.slot_int_index.lookup
      (call_meets F.slot_int_rmul (typeIs_int s k t) F.entry_int_rmul
                                                                                                                    (F.args_int_rmul_2 _ _) (int___rmul___int_list k t l its.toArray n)
        ⟨e, rfl, ⟨_, e, rfl⟩, call_meets F.slot_list_mul ⟨_, e, rfl⟩ F.entry_list_mul (F.args_list_mul_2 _ _) (AutoListH.list___mul___list_int_3 l its.toArray n k t (by rw [fitsIndex_both h1 h2]; exact Bool.false_ne_true) hcap (by rw [notLongL hlen]; exact Bool.false_ne_true)) ⟨e, ?_⟩⟩)
    rw [hnew]
    exact ⟨.ref _, _, I.lnew (t' := s.toks) (r.rep k.toNat) (by rw [rep_flat_len, Nat.mul_comm]; exact hz), rfl, q _ I.fresh⟩
def dMul : D → D → Option Sl
  | .int i, .int j => if mulOk i j then some (.val (.int (i * j))) else none
  | .list xs, .int k => if k.natAbs < 1000000 ∧ xs.length * k.toNat ≤ LIM then some (.own false (List.replicate k.toNat xs).flatten) else none
  | .tuple xs, .int k => if xs ≠ [] ∧ 2 ≤ k ∧ k ≤ 1000 ∧ xs.length ≤ 1000 then some (.val (.tuple (List.replicate k.toNat xs).flatten)) else none
  | _, _ => none
@[simp] theorem dMul_int (i j : Int) : dMul (.int i) (.int j) = if mulOk i j then some (.val (.int (i * j))) else none := rfl
theorem ov_mul : OV X (binaryOp .Mult) dMul := ov_of (or4 op_mulW op_repR op_repT op_mul) fun x y H Q F a b s ra rb k => by
  unfold dMul at k
  split at k
  · rename_i i j
    rw [int_of ra, int_of rb]
    split at k
    · rename_i hm
      rcases hm with hm | hm
      · exact .inl ⟨i, j, rfl, rfl, hm, k.val s (.int _)⟩
      · exact .inr (.inr (.inr ⟨i, j, rfl, rfl, hm, k.val s (.int _)⟩))
    · exact k.elim
  · rename_i xs n
    split at k
    · rename_i hl
      obtain ⟨a1, us, rfl, h1, r1⟩ := lst_of ra
      rw [int_of rb]
      exact .inr (.inl ⟨a1, n, us, rfl, rfl, rd_mono s h1, by omega, by omega, by rw [dps_len r1]; exact lim_line hl.2, k.lst s (dps_rep r1 _)⟩)
    · exact k.elim
  · rename_i xs n
    split at k
    · rename_i hl
      obtain ⟨a1, us, rfl, h1, r1⟩ := tup_of ra
      rw [int_of rb]
      refine .inr (.inr (.inl ⟨a1, n, us, rfl, rfl, sqT_mono s h1, fun e => hl.1 ?_, hl.2.1, hl.2.2.1, by rw [dps_len r1]; exact hl.2.2.2, k.tup s (dps_rep r1 _)⟩))
      subst e
      cases r1
      rfl
    · exact k.elim
  · exact k.elim
def CDivS (i j : Int) : Prop := j ≠ 0 ∧ j.natAbs.log2 < 9000
theorem op_fdivS : OpR X (binaryOp .FloorDiv) (rI CDivS fun i j => .int (i.fdiv j)) := opI fun _ _ _ _ _ _ _ hc q => floordiv_int hc.1 q (.inl (PyProof.noPylong_of_log2 hc.2))
def dFdiv : D → D → Option Sl
  | .int i, .int j => if j ≠ 0 ∧ j.natAbs.log2 < 9000 then some (.val (.int (i.fdiv j))) else none
  | _, _ => none
@[simp] theorem dFdiv_int (i j : Int) : dFdiv (.int i) (.int j) = if j ≠ 0 ∧ j.natAbs.log2 < 9000 then some (.val (.int (i.fdiv j))) else none := rfl
theorem ov_fdiv : OV X (binaryOp .FloorDiv) dFdiv := ov_of op_fdivS fun x y H Q F a b s ra rb k => by
  unfold dFdiv at k
  split at k
  · rename_i i j
    rw [int_of ra, int_of rb]
    split at k
    · rename_i hm
      exact ⟨i, j, rfl, rfl, hm, k.val s (.int _)⟩
    · exact k.elim
  · exact k.elim
def dMod : D → D → Option Sl
  | .int i, .int j => if j ≠ 0 then some (.val (.int (i.fmod j))) else none
  | _, _ => none
@[simp] theorem dMod_int (i j : Int) : dMod (.int i) (.int j) = if j ≠ 0 then some (.val (.int (i.fmod j))) else none := rfl
theorem ov_mod : OV X (binaryOp .Mod) dMod := ov_of op_modN fun x y H Q F a b s ra rb k => by
  unfold dMod at k
  split at k
  · rename_i i j
    rw [int_of ra, int_of rb]
    split at k
    · rename_i hm
      exact ⟨i, j, rfl, rfl, hm, k.val s (.int _)⟩
    · exact k.elim
  · exact k.elim
def dPow : D → D → Option Sl
  | .int i, .int j => if 0 ≤ j ∧ j ≤ 1000 ∧ i.natAbs < 1000000 then some (.val (.int (i ^ j.toNat))) else none
  | _, _ => none
@[simp] theorem dPow_int (i j : Int) : dPow (.int i) (.int j) = if 0 ≤ j ∧ j ≤ 1000 ∧ i.natAbs < 1000000 then some (.val (.int (i ^ j.toNat))) else none := rfl
theorem ov_pow : OV X (binaryOp .Pow) dPow := ov_of op_pow fun x y H Q F a b s ra rb k => by
  unfold dPow at k
  split at k
  · rename_i i j
    rw [int_of ra, int_of rb]
    split at k
    · rename_i hm
      exact ⟨i, j, rfl, rfl, ⟨hm.1, by omega, by omega⟩, k.val s (.int _)⟩
    · exact k.elim
  · exact k.elim
theorem uv_of {f : Value → Sem Value} {r : V → Hp → VK → Prop} {o : D → Option Sl} (h : UnR X f r) (w : ∀ x H Q F a, Same F H → Dp X.K F x a → Kd X.K F H Q (o a) → r x H Q) : UV X f o :=
  fun pins s σ H x v Q I rx ⟨F, a, s0, ra, k⟩ => h pins s σ H x v Q I rx (w x H Q F a s0 ra k)
def dNeg : D → Option Sl
  | .int i => some (.val (.int (-i)))
  | _ => none
@[simp] theorem dNeg_int (i : Int) : dNeg (.int i) = some (.val (.int (-i))) := rfl
theorem uv_neg : UV X (unaryOp .USub) dNeg := uv_of un_neg fun x H Q F a s ra k => by
  unfold dNeg at k
  split at k
  · rename_i i
    rw [int_of ra]
    exact ⟨i, rfl, k.val s (.int _)⟩
  · exact k.elim

/-! ### comparisons -/
def dCmp (p : Int → Int → Bool) : D → D → Option Sl
  | .int i, .int j => some (.val (.bool (p i j)))
  | _, _ => none
@[simp] theorem dCmp_int (p : Int → Int → Bool) (i j : Int) : dCmp p (.int i) (.int j) = some (.val (.bool (p i j))) := rfl
theorem rd_cmp {p : Int → Int → Bool} {x y : V} {H : Hp} {Q : VK} {F : Hp} {a b : D} (s : Same F H) (ra : Dp X.K F x a) (rb : Dp X.K F y b) (k : Kd X.K F H Q (dCmp p a b)) : rI0 (fun i j => .bl (p i j)) x y H Q := by
  unfold dCmp at k
  split at k
  · rename_i i j
    rw [int_of ra, int_of rb]
    exact ⟨i, j, rfl, rfl, k.val s (.bl _)⟩
  · exact k.elim
theorem ov_lt : OV X (compareOp .Lt) (dCmp fun i j => decide (i < j)) := ov_of op_lt fun x y H Q F a b s ra rb k => rd_cmp s ra rb k
theorem ov_le : OV X (compareOp .LtE) (dCmp fun i j => decide (i ≤ j)) := ov_of op_le fun x y H Q F a b s ra rb k => rd_cmp s ra rb k
theorem ov_gt : OV X (compareOp .Gt) (dCmp fun i j => decide (j < i)) := ov_of op_gt fun x y H Q F a b s ra rb k => rd_cmp s ra rb k
theorem ov_ge : OV X (compareOp .GtE) (dCmp fun i j => decide (j ≤ i)) := ov_of op_ge fun x y H Q F a b s ra rb k => rd_cmp s ra rb k
/-- lists of unlike lengths: no item is looked at -/
def lenNe (r : Bool) : D → D → Option Sl
  | .list xs, .list ys => if xs.length ≠ ys.length then some (.val (.bool r)) else none
  | _, _ => none
def rLen (K : PySem.W.Frag) (r : Bool) : R2 := fun x y H Q => ∃ a b xs ys, x = .ref a ∧ y = .ref b ∧ SqL K H a xs ∧ SqL K H b ys ∧ xs.length ≠ ys.length ∧ Q (.bl r) H
theorem op_eqLen (hu : X.A.units < cLine) : OpR X (compareOp .Eq) (rLen X.K false) := by
  intro pins s σ H x y
  intro v u Q I rx ry h
  obtain ⟨a, b, xs, ys, rfl, rfl, ha, hb, hl, q⟩ := h
  cases
                                                                                                                (show v = Value.ref a from rx)
  cases
                                                                                                                (show u = Value.ref b from ry)
  obtain ⟨us, r1,
                                                                                                                p1, _⟩ := I.list ha
  obtain ⟨ws, r2,
                                                                                                                p2, _⟩ := I.list hb
  have hsz : (us.toArray.size != ws.toArray.size) = true := by
    rw [List.size_toArray, List.size_toArray,
                                                                                                                  ← r1.length, ← r2.length]
    exact bne_iff_ne.mpr hl
  exact SeqAt.eq_list_lengthsAt p1.isList p2.isList hsz hu ⟨.bl _, H, I, rfl, q⟩
theorem op_neLen (hu : X.A.units < cLine) : OpR X (compareOp .NotEq) (rLen X.K true) := by
  intro pins s σ H x y
  intro v u Q I rx ry h
  obtain ⟨a, b, xs, ys, rfl, rfl, ha, hb, hl, q⟩ := h
  cases
                                                                                                                (show v = Value.ref a from rx)
  cases
                                                                                                                (show u = Value.ref b from ry)
  obtain ⟨us, r1,
                                                                                                                p1, _⟩ := I.list ha
  obtain ⟨ws, r2,
                                                                                                                p2, _⟩ := I.list hb
  have hsz : (us.toArray.size != ws.toArray.size) = true := by
    rw [List.size_toArray, List.size_toArray,
                                                                                                                  ← r1.length, ← r2.length]
    exact bne_iff_ne.mpr hl
  exact SeqAt.RcNeAt.lists_lengths p1.isList p2.isList hsz hu X.prog X.w _ _ ⟨.bl _, H, I, rfl, q⟩
theorem rd_len {x y : V} {H : Hp} {Q : VK} {F : Hp} {a b : D} {r : Bool} (s : Same F H) (ra : Dp X.K F x a) (rb : Dp X.K F y b) (k : Kd X.K F H Q (lenNe r a b)) : rLen X.K r x y H Q := by
  unfold lenNe at k
  split at k
  · obtain ⟨a1, us, rfl, h1, r1⟩ := lst_of ra
    obtain ⟨a2, ws, rfl, h2, r2⟩ := lst_of rb
    split at k
    · rename_i hl
      exact ⟨a1, a2, us, ws, rfl, rfl, .inl (rd_mono s h1), .inl (rd_mono s h2), by rw [dps_len r1, dps_len r2]; exact hl, k.val s (.bl _)⟩
    · exact k.elim
  · exact k.elim
def dEq : D → D → Option Sl
  | .str x, .str y => some (.val (.bool (decide (x = y))))
  | a, b => if SeqAt.shaped a = true ∧ SeqAt.shaped b = true then some (.val (.bool (PyData.eqv a b))) else lenNe false a b
def dNe : D → D → Option Sl
  | .str x, .str y => some (.val (.bool (!decide (x = y))))
  | a, b => if SeqAt.shaped a = true ∧ SeqAt.shaped b = true then some (.val (.bool (!PyData.eqv a b))) else lenNe true a b
theorem vstr_iff {x y : Str} : decide (V.str x = V.str y) = decide (x = y) := by
  by_cases h : x = y
  · subst h; simp
  · rw [decide_eq_false h]
    exact decide_eq_false fun e => h (V.str.inj e)
theorem ov_eq (hr : RoomG 0 X.A) : OV X (compareOp .Eq) dEq := ov_of (OpR.or (op_eqD (Nat.lt_of_le_of_lt (Nat.le_refl _) hr.r.units)) (OpR.or L2.op_eq (op_eqLen (Nat.lt_of_le_of_lt (Nat.le_add_right _ _) hr.r.units)))) fun x y H Q F a b s ra rb k => by
  unfold dEq at k
  split at k
  · rw [str_of ra, str_of rb]
    exact .inr (.inl ⟨rfl, by rw [vstr_iff]; exact k.val s (.bl _)⟩)
  · split at k
    · rename_i h
      exact .inl ⟨a, b, (dp_mono s ra).l2 (noDict_lay (SeqAt.canLay_of_shaped h.1)), (dp_mono s rb).l2 (noDict_lay (SeqAt.canLay_of_shaped h.2)), h.1, h.2, k.val s (.bl _)⟩
    · exact .inr (.inr (rd_len s ra rb k))
theorem ov_ne (hr : RoomG 0 X.A) : OV X (compareOp .NotEq) dNe := ov_of (OpR.or (op_neD (Nat.lt_of_le_of_lt (Nat.le_refl _) hr.r.units)) (OpR.or L2.op_ne (op_neLen (Nat.lt_of_le_of_lt (Nat.le_add_right _ _) hr.r.units)))) fun x y H Q F a b s ra rb k => by
  unfold dNe at k
  split at k
  · rw [str_of ra, str_of rb]
    exact .inr (.inl ⟨rfl, by rw [vstr_iff]; exact k.val s (.bl _)⟩)
  · split at k
    · rename_i h
      exact .inl ⟨a, b, (dp_mono s ra).l2 (noDict_lay (SeqAt.canLay_of_shaped h.1)), (dp_mono s rb).l2 (noDict_lay (SeqAt.canLay_of_shaped h.2)), h.1, h.2, k.val s (.bl _)⟩
    · exact .inr (.inr (rd_len s ra rb k))
/-- is None, is of two bools -/
def dIs : D → D → Option Sl
  | .bool a, .bool b => some (.val (.bool (decide (a = b))))
  | .none, .none => some (.val (.bool true))
  | _, .none => some (.val (.bool false))
  | _, _ => none
def dIsnt : D → D → Option Sl
  | .bool a, .bool b => some (.val (.bool (!decide (a = b))))
  | .none, .none => some (.val (.bool false))
  | _, .none => some (.val (.bool true))
  | _, _ => none
end
end Mv

namespace Mv
open L2 PySem.Spec PySem PyProof.Rows

section
variable {X : Cx}
/-! ### items, slices -/
def optV (o : Option D) : Option Sl := o.map Sl.val
@[simp] theorem optV_some (d : D) : optV (some d) = some (.val d) := rfl
@[simp] theorem optV_none : optV none = none := rfl
def dIx : D → D → Option Sl
  | .list xs, .int i => optV (atI xs i)
  | .tuple xs, .int i => optV (atI xs i)
  | .str z, .int i => if z.length ≤ LIM then optV ((atI z.cps.toList i).map fun c => .str ⟨#[c]⟩) else none
  | _, _ => none
@[simp] theorem dIx_list (xs : List D) (i : Int) : dIx (.list xs) (.int i) = optV (atI xs i) := rfl
@[simp] theorem dIx_tuple (xs : List D) (i : Int) : dIx (.tuple xs) (.int i) = optV (atI xs i) := rfl
theorem dps_atI {K : PySem.W.Frag} {F : Hp} {vs : List V} {ds : List D} (r : DpAll K F vs ds) {i : Int} {d : D} (h : atI ds i = some d) : ∃ v, atI vs i = some v ∧ Dp K F v d := by
  obtain ⟨j, h1, h2⟩ := Option.bind_eq_some_iff.mp h
  have hl := dps_len r
  have hj : j < vs.length := by rw [hl]; exact (List.getElem?_eq_some_iff.mp h2).1
  refine ⟨vs[j], ?_, dps_get r (List.getElem?_eq_getElem hj) h2⟩
  unfold atI
  rw [hl, h1]
  exact List.getElem?_eq_getElem hj
theorem iv_of {r : R2} {o : D → D → Option Sl} (h : IxR X r) (w : ∀ x y H Q F a b, Same F H → Dp X.K F x a → Dp X.K F y b → Kd X.K F H Q (o a b) → r x y H Q) : IV X o :=
  fun value slice pins s σ H x y v u Q I rx ry ⟨F, a, b, s0, ra, rb, k⟩ => h value slice pins s σ H x y v u Q I rx ry (w x y H Q F a b s0 ra rb k)
theorem rd_ix {x y : V} {H : Hp} {Q : VK} {F : Hp} {a b : D} (s : Same F H) (ra : Dp X.K F x a) (rb : Dp X.K F y b) (k : Kd X.K F H Q (dIx a b)) : rIx X.K x y H Q := by
  unfold dIx at k
  split at k
  · rename_i xs i
    cases h : atI xs i with
    | none => rw [h] at k; exact k.elim
    | some d =>
      rw [h] at k
      obtain ⟨a1, us, rfl, h1, r1⟩ := lst_of ra
      obtain ⟨v, e1, rv⟩ := dps_atI r1 h
      rw [int_of rb]
      exact .inl ⟨a1, us, i, v, rfl, rfl, .inl (rd_mono s h1), e1, k.val s rv⟩
  · rename_i xs i
    cases h : atI xs i with
    | none => rw [h] at k; exact k.elim
    | some d =>
      rw [h] at k
      obtain ⟨a1, us, rfl, h1, r1⟩ := tup_of ra
      obtain ⟨v, e1, rv⟩ := dps_atI r1 h
      rw [int_of rb]
      exact .inr (.inl ⟨a1, us, i, v, rfl, rfl, sqT_mono s h1, e1, k.val s rv⟩)
  · rename_i z i
    split at k
    · rename_i hl
      cases h : atI z.cps.toList i with
      | none => rw [h] at k; exact k.elim
      | some c =>
        rw [h] at k
        rw [str_of ra, int_of rb]
        exact .inr (.inr ⟨z, i, c, rfl, rfl, lim_line hl, h, k.val s (.str _)⟩)
    · exact k.elim
  · exact k.elim
theorem iv_ix : IV X dIx := iv_of ix_seq fun x y H Q F a b s ra rb k => rd_ix s ra rb k
/-- x[e], x a name: an own list stays own -/
def vIxv (i : Nat) (f : M Sl) : M Sl := fun en => match en[i]? with
  | some (.val d) => (vD f en).bind fun k e => opt (dIx d k) e
  | some (.own _ _) => (vD f en).bind fun k e => ownE i e fun _ xs => opt (dIx (.list xs) k) e
  | _ => .bad
theorem ve_ixv {W : WX} {i : Nat} {x : Str} {p pos : Pos} {b : Expr} {f : M Sl} (hb : VE X W b f) (hN : X.N[i]? = some x := by rfl) (hv : Vis X.env.scope x := by first | exact Or.inl rfl | exact Or.inr (Or.inl rfl) | exact Or.inr (Or.inr rfl)) (hd : (x == ("__debug__" : Str)) = false := by decide)
    (hcd : (x == ("__classdict__" : Str)) = false := by decide) (hs : PlainIx b := by exact fun _ _ => rfl) : VE X W (.Subscript (.Name x p) b pos) (vIxv i f) := fun B =>
  peWk (pe_ix ix_seq (pe_var hN hv hd hcd) (hb.d B) hs) fun σ H Q ⟨F, en, S, q⟩ => by
    unfold vIxv at q
    split at q
    · rename_i d h
      obtain ⟨v, h1, h2⟩ := S.val i d h
      exact ⟨v, h1, F, en, S, (Post.bind q).imp fun k en1 F1 H1 S1 s1 q1 y ry => rd_ix S1.sub (dp_mono s1 h2) ry (Post.opt S1 q1)⟩
    · rename_i b0 xs0 h
      obtain ⟨a0, vs0, e0, _⟩ := S.slotL h
      refine ⟨_, e0, F, en, S, (Post.bind q).imp fun k en1 F1 H1 S1 s1 q1 y ry => ?_⟩
      unfold ownE at q1
      split at q1
      · rename_i b1 xs h1
        obtain ⟨a1, vs, e1, l1, r1, _⟩ := S1.slotL h1
        rw [e0] at e1
        cases e1
        dsimp only at q1
        have kd := Post.opt S1 q1
        unfold dIx at kd
        split at kd
        · rename_i ys j hy
          cases hy
          cases hat : atI xs j with
          | none => rw [hat] at kd; exact kd.elim
          | some d =>
            rw [hat] at kd
            obtain ⟨v, e2, rv⟩ := dps_atI r1 hat
            rw [int_of ry]
            exact .inl ⟨_, vs, j, v, rfl, rfl, .inl (.inl l1), e2, kd.val S1.sub rv⟩
        · rename_i hy; cases hy
        · rename_i hy; cases hy
        · exact kd.elim
      · exact q1.elim
    · exact q.elim

/-- a part of a slice -/
def VO (X : Cx) (W : WX) (e : Option Expr) (f : M (Option Int)) : Prop := ∀ B, PO X e (fun σ H Q => ∃ F en, Sim X.K B σ en F H ∧ Post X.K X.mg B W σ F (fun o _ _ H' => Q o H') (f en))
def oNone : M (Option Int) := fun en => .ok none en
def oSome (f : M Sl) : M (Option Int) := fun en => (vD f en).bind fun d e => match d with
  | .int i => .ok (some i) e
  | _ => .bad
theorem poWk {e : Option Expr} {t t' : TO} (h : PO X e t) (w : ∀ σ H Q, t' σ H Q → t σ H Q) : PO X e t' := ⟨fun pins s σ H Q I q => h.run pins s σ H Q I (w _ _ _ q)⟩
theorem vo_none {W : WX} : VO X W none oNone := fun B => poWk po_none fun σ H Q ⟨F, en, S, p⟩ => p F H S (.refl _)
theorem vo_some {W : WX} {e : Expr} {f : M Sl} (h : VE X W e f) : VO X W (some e) (oSome f) := fun B => poWk (po_some (h.d B)) fun σ H Q ⟨F, en, S, p⟩ => by
  refine ⟨F, en, S, (Post.bind p).imp fun d en1 F1 H1 S1 s1 q v rv => ?_⟩
  cases d with
  | int i =>
    cases rv
    exact ⟨i, rfl, q F1 H1 S1 (.refl _)⟩
  | _ => exact q.elim
def cutD (xs : List D) (lo hi : Option Int) : List D := (xs.drop (HT.sIx xs.length 0 lo)).take (HT.sIx xs.length xs.length hi - HT.sIx xs.length 0 lo)
theorem dps_cut {K : PySem.W.Frag} {F : Hp} {us : List V} {xs : List D} (r : DpAll K F us xs) (lo hi : Option Int) : DpAll K F (cutV us lo hi) (cutD xs lo hi) := by
  unfold cutV cutD
  rw [dps_len r]
  exact dps_take _ (dps_drop _ r)
def dSl : D → Option Int → Option Int → Option Sl
  | .list xs, lo, hi => some (.own false (cutD xs lo hi))
  | .tuple xs, lo, hi => some (.val (.tuple (cutD xs lo hi)))
  | .str z, lo, hi => if z.length ≤ LIM then some (.val (.str (cutS z lo hi))) else none
  | _, _, _ => none
@[simp] theorem dSl_list (xs lo hi) : dSl (.list xs) lo hi = some (.own false (cutD xs lo hi)) := rfl
@[simp] theorem dSl_tuple (xs lo hi) : dSl (.tuple xs) lo hi = some (.val (.tuple (cutD xs lo hi))) := rfl
theorem rd_sl {x : V} {lo hi : Option Int} {H : Hp} {Q : VK} {F : Hp} {a : D} (s : Same F H) (ra : Dp X.K F x a) (k : Kd X.K F H Q (dSl a lo hi)) : rSlL X.K x lo hi H Q ∨ rSlA X.K x lo hi H Q ∨ rSlS x lo hi H Q := by
  unfold dSl at k
  split at k
  · rename_i xs
    obtain ⟨a1, us, rfl, h1, r1⟩ := lst_of ra
    exact .inl ⟨a1, us, rfl, .inl (rd_mono s h1), k.lst s (dps_cut r1 _ _)⟩
  · rename_i xs
    obtain ⟨a1, us, rfl, h1, r1⟩ := tup_of ra
    refine .inr (.inl ⟨a1, us, rfl, sqT_mono s h1, fun hw => ?_, fun _ => k.tup s (dps_cut r1 _ _)⟩)
    have e : cutD xs lo hi = xs := by
      unfold cutD
      rw [dps_len r1] at hw
      rw [hw.1, hw.2]
      simp
    rw [e] at k
    exact k.val s ra
  · rename_i z
    split at k
    · rename_i hl
      rw [str_of ra]
      exact .inr (.inr ⟨z, rfl, lim_line hl, k.val s (.str _)⟩)
    · exact k.elim
  · exact k.elim
def vSl (f : M Sl) (l h : M (Option Int)) : M Sl := fun en => (vD f en).bind fun d e => (l e).bind fun lo e2 => (h e2).bind fun hi e3 => opt (dSl d lo hi) e3
theorem ve_slice {W : WX} {e : Expr} {lo hi : Option Expr} {p2 pos : Pos} {f : M Sl} {l h : M (Option Int)} (he : VE X W e f) (hl : VO X W lo l) (hh : VO X W hi h) : VE X W (.Subscript e (.Slice lo hi none p2) pos) (vSl f l h) := fun B =>
  peWk (pe_slice (sl_list.or (sl_tupA.or sl_str)) (he.d B) (hl B) (hh B)) fun σ H Q ⟨F, en, S, p⟩ => by
    refine ⟨F, en, S, (Post.bind p).imp fun d en1 F1 H1 S1 s1 q v rv => ?_⟩
    refine ⟨F1, en1, S1, (Post.bind q).imp fun a en2 F2 H2 S2 s2 q2 => ?_⟩
    refine ⟨F2, en2, S2, (Post.bind q2).imp fun b en3 F3 H3 S3 s3 q3 => ?_⟩
    exact rd_sl S3.sub (dp_mono (s2.trans s3) rv) (Post.opt S3 q3)

/-! ### built-ins -/
theorem cv_of {f : Value} {r : List V → Hp → VK → Prop} {o : List D → Option Sl} (h : CallR X f r) (w : ∀ xs H Q F as, Same F H → DpAll X.K F xs as → Kd X.K F H Q (o as) → r xs H Q) : CV X f o :=
  fun pins s σ H xs us Q I rx ⟨F, as, s0, ra, k⟩ => h pins s σ H xs us Q I rx (w xs H Q F as s0 ra k)
def dLen : List D → Option Sl
  | [.list xs] => some (.val (.int xs.length))
  | [.tuple xs] => some (.val (.int xs.length))
  | [.str z] => if z.length ≤ LIM then some (.val (.int z.length)) else none
  | _ => none
theorem dps1 {K : PySem.W.Frag} {F : Hp} {us : List V} {d : D} (r : DpAll K F us [d]) : ∃ u, us = [u] ∧ Dp K F u d := by
  cases r with
  | cons a b => cases b; exact ⟨_, rfl, a⟩
theorem dps2 {K : PySem.W.Frag} {F : Hp} {us : List V} {d d2 : D} (r : DpAll K F us [d, d2]) : ∃ u u2, us = [u, u2] ∧ Dp K F u d ∧ Dp K F u2 d2 := by
  cases r with
  | cons a b =>
    cases b with
    | cons c b => cases b; exact ⟨_, _, rfl, a, c⟩
/-- len(x), x a name: an own list stays own -/
def vLenv (i : Nat) : M Sl := fun en => match en[i]? with
  | some (.val d) => opt (dLen [d]) en
  | some (.own _ xs) => .ok (.val (.int xs.length)) en
  | _ => .bad
theorem ve_lenv {W : WX} {i : Nat} {x : Str} {p p0 pos : Pos} (hg : Gl X "len") (hm : X.mg "len" = none) (hN : X.N[i]? = some x := by rfl) (hv : Vis X.env.scope x := by first | exact Or.inl rfl | exact Or.inr (Or.inl rfl) | exact Or.inr (Or.inr rfl)) (hd : (x == ("__debug__" : Str)) = false := by decide)
    (hcd : (x == ("__classdict__" : Str)) = false := by decide) (he : starEach [.Name x p] X.env = (false, eval (.Name x p) X.env) :: starEach [] X.env := by rfl) : VE X W (.Call (.Name "len" p0) [.Name x p] [] pos) (vLenv i) := fun B =>
  peWk (pe_callB (call_len_seq.or call_len_str) hg hm PySem.boot_len (pa_cons (pe_var hN hv hd hcd) pa_nil he) (by decide) (by decide) he (by rfl)) fun σ H Q ⟨F, en, S, q⟩ => by
    unfold vLenv at q
    split at q
    · rename_i d h
      obtain ⟨v, h1, h2⟩ := S.val i d h
      refine ⟨v, h1, ?_⟩
      have k := Post.opt S q
      unfold dLen at k
      split at k
      · rename_i hh; cases hh
        obtain ⟨a1, us, rfl, h3, r1⟩ := lst_of h2
        exact .inl ⟨a1, us, rfl, .inl (.inl (rd_mono S.sub h3)), by rw [dps_len r1]; exact k.val S.sub (.int _)⟩
      · rename_i hh; cases hh
        obtain ⟨a1, us, rfl, h3, r1⟩ := tup_of h2
        exact .inl ⟨a1, us, rfl, .inr (sqT_mono S.sub h3), by rw [dps_len r1]; exact k.val S.sub (.int _)⟩
      · rename_i z hh; cases hh
        split at k
        · rename_i hl
          rw [str_of h2]
          exact .inr ⟨z, rfl, lim_line hl, k.val S.sub (.int _)⟩
        · exact k.elim
      · exact k.elim
    · rename_i b xs h
      obtain ⟨a, vs, e0, l0, r0, len⟩ := S.slotL h
      exact ⟨_, e0, .inl ⟨a, vs, rfl, .inl (.inl (.inl l0)), q F H S (.refl _) _ (by rw [len]; exact .int _)⟩⟩
    · exact q.elim
def dAbs : List D → Option Sl
  | [.int i] => some (.val (.int (if i < 0 then -i else i)))
  | _ => none
theorem cv_abs : CV X (.builtin "abs") dAbs := cv_of call_abs fun xs H Q F as s ra k => by
  unfold dAbs at k
  split at k
  · rename_i i
    obtain ⟨u, rfl, r⟩ := dps1 ra
    rw [int_of r]
    exact ⟨i, rfl, k.val s (.int _)⟩
  · exact k.elim
def dInt : List D → Option Sl
  | [.int i] => some (.val (.int i))
  | [.bool b] => some (.val (.int (if b then 1 else 0)))
  | _ => none
theorem cv_int : CV X (.type "int") dInt := cv_of call_int1 fun xs H Q F as s ra k => by
  unfold dInt at k
  split at k
  · rename_i i
    obtain ⟨u, rfl, r⟩ := dps1 ra
    rw [int_of r]
    exact .inl ⟨i, rfl, k.val s (.int _)⟩
  · rename_i b
    obtain ⟨u, rfl, r⟩ := dps1 ra
    rw [bl_of r]
    exact .inr ⟨b, rfl, k.val s (.int _)⟩
  · exact k.elim
def dTuple : List D → Option Sl
  | [.list xs] => some (.val (.tuple xs))
  | [.tuple xs] => some (.val (.tuple xs))
  | _ => none
theorem cv_tuple : CV X (.type "tuple") dTuple := cv_of call_tuple_of fun xs H Q F as s ra k => by
  unfold dTuple at k
  split at k
  · obtain ⟨u, rfl, r⟩ := dps1 ra
    obtain ⟨a1, us, rfl, h1, r1⟩ := lst_of r
    exact ⟨a1, us, rfl, .inl ⟨.inl (rd_mono s h1), k.tup s r1⟩⟩
  · obtain ⟨u, rfl, r⟩ := dps1 ra
    obtain ⟨a1, us, rfl, h1, r1⟩ := tup_of r
    exact ⟨a1, us, rfl, .inr ⟨sqT_mono s h1, k.val s r⟩⟩
  · exact k.elim
def dList : List D → Option Sl
  | [.list xs] => some (.own false xs)
  | [.tuple xs] => some (.own false xs)
  | _ => none
theorem cv_list : CV X (.type "list") dList := cv_of call_list_of fun xs H Q F as s ra k => by
  unfold dList at k
  split at k
  · obtain ⟨u, rfl, r⟩ := dps1 ra
    obtain ⟨a1, us, rfl, h1, r1⟩ := lst_of r
    exact ⟨a1, us, rfl, .inl (.inl (rd_mono s h1)), k.lst s r1⟩
  · obtain ⟨u, rfl, r⟩ := dps1 ra
    obtain ⟨a1, us, rfl, h1, r1⟩ := tup_of r
    exact ⟨a1, us, rfl, .inr (sqT_mono s h1), k.lst s r1⟩
  · exact k.elim
/-- the ints, the bools of a list -/
def intsOf : List D → Option (List Int)
  | [] => some []
  | .int i :: ds => (intsOf ds).map (i :: ·)
  | _ :: _ => none
def boolsOf : List D → Option (List Bool)
  | [] => some []
  | .bool i :: ds => (boolsOf ds).map (i :: ·)
  | _ :: _ => none
theorem intsOf_some : ∀ {ds : List D} {ns : List Int}, intsOf ds = some ns → ds = ns.map PyData.int
  | [], ns, h => by cases h; rfl
  | .int i :: ds, ns, h => by
    obtain ⟨ms, h1, rfl⟩ := Option.map_eq_some_iff.mp (show (intsOf ds).map (i :: ·) = some ns from h)
    rw [intsOf_some h1]; rfl
theorem boolsOf_some : ∀ {ds : List D} {ns : List Bool}, boolsOf ds = some ns → ds = ns.map PyData.bool
  | [], ns, h => by cases h; rfl
  | .bool i :: ds, ns, h => by
    obtain ⟨ms, h1, rfl⟩ := Option.map_eq_some_iff.mp (show (boolsOf ds).map (i :: ·) = some ns from h)
    rw [boolsOf_some h1]; rfl
@[simp] theorem intsOf_map (ns : List Int) : intsOf (ns.map PyData.int) = some ns := by
  induction ns with
  | nil => rfl
  | cons n ns ih => show (intsOf (ns.map PyData.int)).map (n :: ·) = _; rw [ih]; rfl
@[simp] theorem boolsOf_map (ns : List Bool) : boolsOf (ns.map PyData.bool) = some ns := by
  induction ns with
  | nil => rfl
  | cons n ns ih => show (boolsOf (ns.map PyData.bool)).map (n :: ·) = _; rw [ih]; rfl
def dAll : List D → Option Sl
  | [.list xs] => (boolsOf xs).map fun bs => .val (.bool (bs.all id))
  | _ => none
theorem cv_all (hc : X.calm = true) : CV X (.builtin "all") dAll := cv_of (cr_all hc) fun xs H Q F as s ra k => by
  unfold dAll at k
  split at k
  · rename_i ys
    obtain ⟨u, rfl, r⟩ := dps1 ra
    obtain ⟨a1, us, rfl, h1, r1⟩ := lst_of r
    cases hb : boolsOf ys with
    | none => rw [hb] at k; exact k.elim
    | some bs =>
      rw [hb] at k
      rw [boolsOf_some hb] at r1
      rw [dps_bools r1] at h1
      exact ⟨a1, bs, rfl, .inl (rd_mono s h1), k.val s (.bl _)⟩
  · exact k.elim
/-- the greatest, the least of ints -/
def maxI : List Int → Int
  | [] => 0
  | n :: ns => ns.foldl max n
def minI : List Int → Int
  | [] => 0
  | n :: ns => ns.foldl min n
theorem foldl_max_ge : ∀ (ns : List Int) (n : Int), n ≤ ns.foldl max n ∧ ∀ y ∈ ns, y ≤ ns.foldl max n
  | [], n => ⟨Int.le_refl _, fun y hy => by cases hy⟩
  | m :: ns, n => by
    obtain ⟨h1, h2⟩ := foldl_max_ge ns (max n m)
    refine ⟨Int.le_trans (Int.le_max_left _ _) h1, fun y hy => ?_⟩
    rcases List.mem_cons.mp hy with
                                                                                                                  rfl | hy
    · exact Int.le_trans (Int.le_max_right _ _) h1
    · exact h2 y hy
theorem foldl_max_mem : ∀ (ns : List Int) (n : Int), ns.foldl max n = n ∨ ns.foldl max n ∈ ns
  | [], n => .inl rfl
  | m :: ns, n => by
    rcases foldl_max_mem ns (max n m) with h | h
    · rw [List.foldl_cons, h]
      rcases Int.le_total n m with q | q
      · rw [Int.max_eq_right q]; exact .inr List.mem_cons_self
      · rw [Int.max_eq_left q]; exact .inl rfl
    · exact .inr (List.mem_cons_of_mem _ h)
theorem foldl_min_le : ∀ (ns : List Int) (n : Int), ns.foldl min n ≤ n ∧ ∀ y ∈ ns, ns.foldl min n ≤ y
  | [], n => ⟨Int.le_refl _, fun y hy => by cases hy⟩
  | m :: ns, n => by
    obtain ⟨h1, h2⟩ := foldl_min_le ns (min n m)
    refine ⟨Int.le_trans h1 (Int.min_le_left _ _), fun y hy => ?_⟩
    rcases List.mem_cons.mp hy with
                                                                                                                  rfl | hy
    · exact Int.le_trans h1 (Int.min_le_right _ _)
    · exact h2 y hy
theorem foldl_min_mem : ∀ (ns : List Int) (n : Int), ns.foldl min n = n ∨ ns.foldl min n ∈ ns
  | [], n => .inl rfl
  | m :: ns, n => by
    rcases foldl_min_mem ns (min n m) with h | h
    · rw [List.foldl_cons, h]
      rcases Int.le_total n m with q | q
      · rw [Int.min_eq_left q]; exact .inl rfl
      · rw [Int.min_eq_right q]; exact .inr List.mem_cons_self
    · exact .inr (List.mem_cons_of_mem _ h)
theorem maxI_spec {ns : List Int} (h : 0 < ns.length) : maxI ns ∈ ns ∧ ∀ y ∈ ns, y ≤ maxI ns := by
  cases ns with
  | nil => cases h
  | cons n ns =>
    obtain ⟨h1, h2⟩ := foldl_max_ge ns n
    refine ⟨?_, fun y hy => ?_⟩
    · rcases foldl_max_mem ns n with e | e
      · show ns.foldl max n ∈ n :: ns
        rw [e]; exact List.mem_cons_self
      · exact List.mem_cons_of_mem _ e
    · rcases List.mem_cons.mp hy with
                                                                                                                    rfl | hy
      · exact h1
      · exact h2 y hy
theorem minI_spec {ns : List Int} (h : 0 < ns.length) : minI ns ∈ ns ∧ ∀ y ∈ ns, minI ns ≤ y := by
  cases ns with
  | nil => cases h
  | cons n ns =>
    obtain ⟨h1, h2⟩ := foldl_min_le ns n
    refine ⟨?_, fun y hy => ?_⟩
    · rcases foldl_min_mem ns n with e | e
      · show ns.foldl min n ∈ n :: ns
        rw [e]; exact List.mem_cons_self
      · exact List.mem_cons_of_mem _ e
    · rcases List.mem_cons.mp hy with
                                                                                                                    rfl | hy
      · exact h1
      · exact h2 y hy
def dMax : List D → Option Sl
  | [.int i, .int j] => some (.val (.int (max i j)))
  | [.list xs] => match intsOf xs with
    | some (n :: ns) => some (.val (.int (maxI (n :: ns))))
    | _ => none
  | _ => none
def dMin : List D → Option Sl
  | [.int i, .int j] => some (.val (.int (min i j)))
  | [.list xs] => match intsOf xs with
    | some (n :: ns) => some (.val (.int (minI (n :: ns))))
    | _ => none
  | _ => none
theorem cv_max (hc : X.calm = true) : CV X (.builtin "max") dMax := cv_of ((call_max2 hc).or (cr_max hc)) fun xs H Q F as s ra k => by
  unfold dMax at k
  split at k
  · rename_i i j
    obtain ⟨u, u2, rfl, r, r2⟩ := dps2 ra
    rw [int_of r, int_of r2]
    refine .inl ⟨i, j, rfl, ?_⟩
    have e : (if j > i then j else i) = max i j := by split <;> omega
    rw [e]
    exact k.val s (.int _)
  · rename_i ys
    obtain ⟨u, rfl, r⟩ := dps1 ra
    obtain ⟨a1, us, rfl, h1, r1⟩ := lst_of r
    split at k
    · rename_i n ns hb
      rw [intsOf_some hb] at r1
      rw [dps_ints r1] at h1
      refine .inr ⟨a1, n :: ns, rfl, .inl (rd_mono s h1), Nat.succ_pos _, fun m hm hle => ?_⟩
      obtain ⟨z1, z2⟩ := maxI_spec (ns := n :: ns) (Nat.succ_pos _)
      rw [show m = maxI (n :: ns) from Int.le_antisymm (z2 m hm) (hle _ z1)]
      exact k.val s (.int _)
    · exact k.elim
  · exact k.elim
theorem cv_min (hc : X.calm = true) : CV X (.builtin "min") dMin := cv_of ((call_min2 hc).or (cr_min hc)) fun xs H Q F as s ra k => by
  unfold dMin at k
  split at k
  · rename_i i j
    obtain ⟨u, u2, rfl, r, r2⟩ := dps2 ra
    rw [int_of r, int_of r2]
    refine .inl ⟨i, j, rfl, ?_⟩
    have e : (if j < i then j else i) = min i j := by split <;> omega
    rw [e]
    exact k.val s (.int _)
  · rename_i ys
    obtain ⟨u, rfl, r⟩ := dps1 ra
    obtain ⟨a1, us, rfl, h1, r1⟩ := lst_of r
    split at k
    · rename_i n ns hb
      rw [intsOf_some hb] at r1
      rw [dps_ints r1] at h1
      refine .inr ⟨a1, n :: ns, rfl, .inl (rd_mono s h1), Nat.succ_pos _, fun m hm hle => ?_⟩
      obtain ⟨z1, z2⟩ := minI_spec (ns := n :: ns) (Nat.succ_pos _)
      rw [show m = minI (n :: ns) from Int.le_antisymm (hle _ z1) (z2 m hm)]
      exact k.val s (.int _)
    · exact k.elim
  · exact k.elim
end
end Mv

namespace Mv
open L2 PySem.Spec PySem PyProof.Rows

section
variable {X : Cx}
/-! ### repr -/
mutual
/-- no lists and dicts within -/
def flatD : D → Bool
  | .none | .bool _ |
                                                                                                                .int _ | .str _ => true
  | .list _ | .dict _ => false
  | .tuple xs => flatDs xs
def flatDs : List D → Bool
  | [] => true
  | x :: xs => flatD x && flatDs xs
end
def keyF : D → Bool
  | .none => false
  | d => flatD d
theorem keyF_flat {d : D} (h : keyF d = true) : flatD d = true := by
  cases d with
  | none => cases h
  | _ => exact h
def flatKv (kvs : List (D × D)) : Bool := kvs.all fun p => keyF p.1 && flatD p.2
/-- what repr is served of: no dict, or a dict of numbers, texts and tuples of them -/
def repB : D → Bool
  | .dict kvs => flatKv kvs
  | d => !d.hasDict
theorem repB_of {d : D} (h : d.hasDict = false) : repB d = true := by
  cases d with
  | dict kvs => simp only [PyData.hasDict] at h; cases h
  | none => simp only [repB, h, Bool.not_false]
  | bool _ => simp only [repB, h, Bool.not_false]
  | int _ => simp only [repB, h, Bool.not_false]
  | str _ => simp only [repB, h, Bool.not_false]
  | list _ => simp only [repB, h, Bool.not_false]
  | tuple _ => simp only [repB, h, Bool.not_false]
def repOk (d : D) : Prop := d.showable = true ∧ d.shown.length ≤ LIM ∧ d.depth ≤ 100 ∧ repB d = true
instance (d : D) : Decidable (repOk d) := inferInstanceAs (Decidable (_ ∧ _ ∧ _ ∧ _))
def dRepr : List D → Option Sl
  | [d] => if repOk d then some (.val (.str d.shown)) else none
  | _ => none
mutual
theorem flat_reads {h : Heap} : ∀ {d : D} {u : Value} {as : List Addr}, flatD d = true → Reads h u d as → as = []
  | .none, _, _, _, .none => rfl
  | .bool _, _, _, _, .bool _ => rfl
  | .int _, _, _, _, .int _ _ => rfl
  | .str _, _, _, _, .str _ _ => rfl
  | .list _, _, _, h, _ => by simp only [flatD] at h; cases h
  | .dict _, _, _, h, _ => by simp only [flatD] at h; cases h
  | .tuple _, _, _, h, .tuple _ _ _ r => flats_reads (by simpa only [flatD] using h) r
theorem flats_reads {h : Heap} : ∀ {ds : List D} {us : List Value} {as : List Addr}, flatDs ds = true → ReadsAll h us ds as → as = []
  | [], _, _, _, .nil => rfl
  | _ :: _, _, _, h, .cons r rs => by
    simp only [flatDs, Bool.and_eq_true] at h
    rw [flat_reads h.1 r, flats_reads h.2 rs]
    rfl
end
def rReprD (X : Cx) : List V → Hp → VK → Prop := fun xs H Q => ∃ v d F, xs = [v] ∧ Same F H ∧ Dp X.K F v d ∧ repOk d ∧ Q (.str d.shown) H
mutual
theorem flat_noDict : ∀ {d : D}, flatD d = true → d.hasDict = false
  | .none, _ => by simp only [PyData.hasDict]
  | .bool _, _ => by simp only [PyData.hasDict]
  | .int _, _ => by simp only [PyData.hasDict]
  | .str _, _ => by simp only [PyData.hasDict]
  | .list _, h => by simp only [flatD] at h; cases h
  | .dict _, h => by simp only [flatD] at h; cases h
  | .tuple _, h => by simp only [PyData.hasDict]; exact flats_noDict (by simpa only [flatD] using h)
theorem flats_noDict : ∀ {ds : List D}, flatDs ds = true → PyData.hasDictAll ds = false
  | [], _ => by simp only [PyData.hasDictAll]
  | d :: ds, h => by
    simp only [flatDs, Bool.and_eq_true] at h
    simp only [PyData.hasDictAll, flat_noDict h.1, flats_noDict h.2, Bool.or_self]
end
theorem dp_reads {pins : List (Addr × Obj)} {σ : L2.St} {H : Hp} {s : Shared} (I : Inv X pins σ H s) {d : D} {v : V} {u : Value} (h : Dp X.K H v d) (f : flatD d = true) (r : RelV v u) : Reads s.heap u d [] := by
  obtain ⟨as, q⟩ := Dp.reads I d v u (h.l2 (flat_noDict f)) r
  have e := flat_reads f q
  subst e
  exact q
theorem reads_key {h : Heap} {k : Key} {v : Value} (r : keyIs k v = true) : Reads h v (keyD k) [] := by
  rcases keyIs_shape r with ⟨i, t, rfl, rfl⟩ | ⟨x, t, rfl, rfl⟩
  · exact .int i t
  · exact .str x t
theorem reads_dK {pins : List (Addr × Obj)} {σ : L2.St} {H : Hp} {s : Shared} (I : Inv X pins σ H s) : ∀ {es : List DictEntry} {ks : List (Key × V)} {vs : List (Key × Value)} {ds : List (D × D)}, DpKv X.K H ks ds → KV ks vs → Pairs (mixKind X.prog X.w) es vs → flatKv ds = true →
    ReadsAll s.heap (es.map (·.key)) (ds.map (·.1)) [] ∧ ReadsAll s.heap (es.map (·.val)) (ds.map (·.2)) []
  | es, _, _, _, .nil, .nil, p, _ => by
    cases p
    exact ⟨.nil, .nil⟩
  | es, _, _, _, .cons r rs, .cons k kk, p, f => by
    rename_i key v ks d ds q vs
    cases p with
    | @cons e kv es kvs p1 p2 p3 =>
    unfold flatKv at f
    simp only [List.all_cons, Bool.and_eq_true] at f
    obtain ⟨h1, h2⟩ := reads_dK I rs kk p3 f.2
    obtain ⟨k1, k2⟩ := k
    have e1 := reads_key (h := s.heap) (k := q.1) (v := e.key) p1
    rw [← k1] at e1
    have e2 : Reads s.heap e.val d [] := by rw [p2]; exact dp_reads I r f.1.2 k2
    exact ⟨.cons (as := []) (bs := []) e1 h1, .cons (as := []) (bs := []) e2 h2⟩
theorem key_all {K : PySem.W.Frag} {H : Hp} : ∀ (ks : List Key), L2.DpAll K H (ks.map kV) (ks.map keyD)
  | [] => .nil
  | .inl i :: ks => .cons (.int i) (key_all ks)
  | .inr x :: ks => .cons (.str x) (key_all ks)
theorem reads_dT {pins : List (Addr × Obj)} {σ : L2.St} {H : Hp} {s : Shared} (I : Inv X pins σ H s) : ∀ {ks : List (List Key × V)} {xs : List (List Key × Addr × Value)} {ds : List (D × D)}, DpTv X.K H ks ds → KT H ks xs → flatKv ds = true →
    ReadsAll s.heap ((xs.map (entryOfKey (tupleKind (mixKind X.prog X.w)))).map (·.key)) (ds.map (·.1)) [] ∧ ReadsAll s.heap ((xs.map (entryOfKey (tupleKind (mixKind X.prog X.w)))).map (·.val)) (ds.map (·.2)) [] 
  | _, _, _, .nil, .nil, _ => ⟨.nil, .nil⟩
  | _, _, _, .cons r rs, .cons k kk, f => by
    rename_i key v ks d ds q xs
    unfold flatKv at f
    simp only [List.all_cons, Bool.and_eq_true] at f
    obtain ⟨h1, h2⟩ := reads_dT I rs kk f.2
    obtain ⟨k1, k2, k3⟩ := k
    obtain ⟨as, e1⟩ := Dp.reads I (.tuple (key.map keyD)) (.ref q.2.1) (.ref q.2.1) (.tup (.inl (.inl k2)) (key_all key)) rfl
    have e0 := flat_reads (keyF_flat f.1.1) e1
    subst e0
    exact ⟨.cons (as := []) (bs := []) e1 h1, .cons (as := []) (bs := []) (dp_reads I r f.1.2 k3) h2⟩
theorem call_reprD (hr : RoomG 0 X.A) : CallR X (.builtin "repr") (rReprD X) := by
  intro pins s σ H xs
  intro us Q I r h
  obtain ⟨v, d, F, rfl, s0, dv, ⟨h1, h2, h3, h4⟩, q⟩ := h
  obtain ⟨u, rfl, ru⟩ : ∃ u, us = [u] ∧ RelV v u := by
    cases r with
    | cons a b => cases b; exact ⟨_, rfl, a⟩
  have hun := hr.r.un
  have dH := dp_mono s0 dv
  have hz := lim_line h2
  cases dH with
  | non =>
    cases ru
    exact PySem.P.repr_of_none ⟨.str _, H, I.tok _, ⟨_, rfl⟩, q⟩
  | bl b =>
    cases ru
    refine PySem.P.repr_of_bool ⟨.str _, H, I.tok _, ⟨_, rfl⟩, ?_⟩
    simpa only [PyData.shown] using q
  | int i =>
    obtain ⟨t, rfl⟩ := ru
    refine PySem.P.repr_of_int (by simpa [PyData.showable] using h1) ⟨.str _, H, I.tok _, ⟨_, rfl⟩, ?_⟩
    simpa only [PyData.shown] using q
  | str x =>
    obtain ⟨t, rfl⟩ := ru
    refine PySem.P.repr_of_str ⟨.str _, H, I.tok _, ⟨_, rfl⟩, ?_⟩ (by simpa only [PyData.shown] using hz)
    simpa only [PyData.shown] using q
  | lst r1 r2 =>
    rename_i ds0
    have nd : (PyData.list ds0).hasDict = false := by simpa [repB] using h4
    have dL := (Dp.lst r1 r2).l2 (by simpa [repB] using h4)
    obtain ⟨as, rd⟩ := Dp.reads I _ _ u dL ru
    cases ru
    exact repr_of_reads' rd h1 (PyData.noDict_hsm nd) hr.g (by omega) (fun _ _ e => e) (fun h' t tk hk => ⟨.str _, H, I.kept hk, ⟨t, rfl⟩, q⟩) hz
  | tup r1 r2 =>
    rename_i ds0
    have nd : (PyData.tuple ds0).hasDict = false := by simpa [repB] using h4
    have dL := (Dp.tup r1 r2).l2 nd
    obtain ⟨as, rd⟩ := Dp.reads I _ _ u dL ru
    cases ru
    exact repr_of_reads' rd h1 (PyData.noDict_hsm nd) hr.g (by omega) (fun _ _ e => e) (fun h' t tk hk => ⟨.str _, H, I.kept hk, ⟨t, rfl⟩, q⟩) hz
  | @dic a ks ds r1 r2 =>
    obtain rfl :
                                                                                                                  u = Value.ref a := ru
    have f : flatKv ds = true := by simpa [repB] using h4
    obtain ⟨_, hsys, vs, kv, o, es, ep, g1, g2, g3, g4, g5, g6⟩ := dk_rd I.hok r1
    obtain ⟨q1, q2⟩ := reads_dK I r2 kv g5 f
    have rd : Reads s.heap (.ref a) (.dict ds) ([a] ++ []) := .dict g1 g2.1 g3 q1 q2
    exact repr_of_reads' rd h1 (fun _ z => by
      have z := List.mem_singleton.mp (by simpa using z)
      rw [← z] at hsys
      simp at hsys) hr.g (by omega) (fun _ _ e => e) (fun h' t tk hk => ⟨.str _, H, I.kept hk, ⟨t, rfl⟩, q⟩) hz
  | @dit a ks ds r1 _ r2 =>
    obtain rfl :
                                                                                                                  u = Value.ref a := ru
    have f : flatKv ds = true := by simpa [repB] using h4
    obtain ⟨_, hsys, xs, kt, o, es, ep, g1, g2, g3, g4, g5, g6⟩ := dt_rd I.hok r1
    obtain ⟨q1, q2⟩ := reads_dT I r2 kt f
    rw [← g4] at q1 q2
    have rd : Reads s.heap (.ref a) (.dict ds) ([a] ++ []) := .dict g1 g2.1 g3 q1 q2
    exact repr_of_reads' rd h1 (fun _ z => by
      have z := List.mem_singleton.mp (by simpa using z)
      rw [← z] at hsys
      simp at hsys) hr.g (by omega) (fun _ _ e => e) (fun h' t tk hk => ⟨.str _, H, I.kept hk, ⟨t, rfl⟩, q⟩) hz
  | @sob a C dx nm vs ds r1 r2 _ r3 =>
    have f : flatKv ((.dict [(.int (a : Nat), .none)], .str nm) :: ds) = true := by simpa [repB] using h4
    unfold flatKv at f
    simp only [List.all_cons, Bool.and_eq_true] at f
    exact absurd (keyF_flat f.1.1) (by simp [flatD])
  | opq h1 =>
    have f : flatKv [(.list [], .none)] = true := by simpa [repB, opqD] using h4
    unfold flatKv at f
    simp only [List.all_cons, Bool.and_eq_true] at f
    exact absurd (keyF_flat f.1.1) (by simp [flatD])
  | @xco a t C nm _ _ _ =>
    have f : flatKv [(PyData.none, PyData.str nm)] = true := by simpa [repB, excD] using h4
    cases f
theorem cv_repr (hr : RoomG 0 X.A) : CV X (.builtin "repr") dRepr := cv_of (call_reprD hr) fun xs H Q F as s ra k => by
  unfold dRepr at k
  split at k
  · rename_i d
    obtain ⟨u, rfl, r⟩ := dps1 ra
    split at k
    · rename_i hk
      exact ⟨u, d, F, rfl, s, r, hk, k.val s (.str _)⟩
    · exact k.elim
  · exact k.elim

/-! ### in -/
/-! ### isinstance -/
def tyOf : D → String
  | .none => "NoneType"
  | .bool _ => "bool"
  | .int _ => "int"
  | .str _ => "str"
  | .list _ => "list"
  | .tuple _ => "tuple"
  | .dict _ => "dict"
/-- types, of a locked dict with tuple keys, too -/
inductive TyY (K : PySem.W.Frag) (H : Hp) : V → Value → Prop where
  | x {v : V} {t : Value} : TyX K H v t → TyY K H v t
  | fT {a : Addr} {o : Obj} {kvs : List (List Key × V)} : H a = some (.frz o (.dT kvs)) → TyY K H (.ref a) (.type "dict")
  | raw {a : Addr} {P : Program} {w : World} {xs : List (NestedKey × Addr × Value)} : H a = some (rawN P w a xs) → TyY K H (.ref a) (.type "dict")
theorem kit_of2 {pins : List (Addr × Obj)} {σ : L2.St} {H : Hp} {s : Shared} {x : V} {u t : Value} (I : Inv X pins σ H s) (rx : RelV x u) (ty : TyY X.K H x t) : ∃ P : Heap → Prop, PySem.W.KitX X.K u t P ∧ P s.heap ∧ u ≠ .builtin "__main__.__loader__#opaque" := by
  cases ty with
  | x h => exact kit_of I rx h
  | @fT a o kvs ea =>
    cases
                                                                                                                  (show u = Value.ref a from rx)
    obtain ⟨_, _, _, xs, _, o, es, ep, h1, h2, _⟩ := (show ObjOk X.prog X.w H s.heap a (.frz o (.dT kvs)) from I.hok a _ ea)
    exact ⟨_, PySem.W.kitx_dict,
                                                                                                                  ⟨o, h1, h2.1⟩, fun z => nomatch z⟩
  | @raw a P w xs ea =>
    cases
                                                                                                                  (show u = Value.ref a from rx)
    obtain ⟨⟨o, es, ep, h1, h2, _⟩, _⟩ := I.hok a _ ea
    exact ⟨_, PySem.W.kitx_dict,
                                                                                                                  ⟨o, h1, h2.1⟩, fun z => nomatch z⟩
def rIsi2 (K : PySem.W.Frag) : List V → Hp → VK → Prop := fun xs H Q => ∃ x c t u b, xs = [x, c] ∧ ClsV c u ∧ ((TyY K H x t ∧ PySem.W.kitOne K t u = some b) ∨ (∃ a C tp nm, x = .ref a ∧ t = .ref C ∧ H a = some (xcO C tp a) ∧ XcC K nm C ∧ PySem.W.kitOne K (.ref C) u = some b) ∨ ∃ a C dx vs, x = .ref a ∧ t = .ref C ∧ SlX.Slt H a C dx vs ∧ SlX.SCls K C ∧ SlX.SIsi K C ∧ PySem.W.kitOne K (.ref C) u = some b) ∧ Q (.bl b) H
theorem call_isi2 : CallR X (.builtin "isinstance") (rIsi2 X.K) := by
  intro pins s σ H xs
  intro us Q I r h
  obtain ⟨x, c, t, u, b, rfl, k, ty, q⟩ := h
  obtain ⟨u1, u2, rfl,
                                                                                                                r1, r2⟩ := vals2 r
  have e2 := k.eq r2
  subst e2
  rcases ty with ⟨ty, e⟩ | ⟨a, C, tp, nm, rfl, rfl, hs, c, e⟩ | ⟨a, C, dx, vs, rfl, rfl, hs, c1, c2, e⟩
  case inr.inl =>
    obtain rfl : u1 = Value.ref a := r1
    obtain ⟨⟨o, vs, h1, h2, h3, h4, _⟩, _⟩ := I.hok a _ hs
    have J : PySem.W.InstAt s.heap a o C none := ⟨h1, h2, by unfold PySem.W.notCls; rw [h4], by rw [h3]; trivial⟩
    exact PySem.W.kia_one (PySem.W.handS_kitx_exc c.ga c.gt c.sub c.hd c.ca c.cn c.ct c.cm) I.kIn J e (fun z => nomatch z) fun tk => ⟨.bl b, H, I.tok tk, rfl, q⟩
  case inr.inr =>
    obtain rfl : u1 = Value.ref a := r1
    obtain ⟨sl, od, _, J, _⟩ := SlX.slt_inst I hs
    exact PySem.W.kia_one (OwX.kitx_slt c1.ic (c1.get _) c2.ca c2.cn c2.ct c2.cm) I.kIn J e (fun z => nomatch z) fun tk => ⟨.bl b, H, I.tok tk, rfl, q⟩
  obtain ⟨P, Z, p, hx⟩ := kit_of2 I r1 ty
  exact PySem.W.kia_one Z I.kIn p e hx fun tk =>
                                                                                                                ⟨.bl b, H, I.tok tk, rfl, q⟩
def isOb : D → Bool
  | .dict ((.dict _, _) :: _) => true
  | .dict ((.none, _) :: _) => true
  | _ => false
theorem ob_at {K : PySem.W.Frag} {F : Hp} {v : V} {d : D} (h : Dp K F v d) (ob : isOb d = true) : (∃ a C tp nm, v = .ref a ∧ F a = some (xcO C tp a) ∧ XcC K nm C) ∨ ∃ (a C dx : Addr) (vs : List (Option V)), (∃ nm, ObC K nm C) ∧ v = .ref a ∧ F a = some (SlX.SlO a C dx vs) ∧ F dx = some (.xd []) := by
  cases h with
  | @dic a ks ds h1 h2 =>
    cases h2 with
    | nil => cases ob
    | @cons k v ks d ds h1 h2 => cases k <;> cases ob
  | @dit a ks ds h1 _ h2 =>
    cases h2 with
    | nil => cases ob
    | cons h1 h2 => cases ob
  | @sob a C dx nm vs ds h1 h2 c h3 => exact .inr ⟨a, C, dx, vs, ⟨nm, c⟩, rfl, h1, h2⟩
  | @xco a t C nm h1 h2 c => exact .inl ⟨a, C, t, nm, rfl, h1, c⟩
  | _ => cases ob
theorem tyx_of {K : PySem.W.Frag} {F : Hp} {v : V} {d : D} (h : Dp K F v d) (no : isOb d = false) : TyY K F v (.type (tyOf d)) := by
  cases h with
  | sob _ _ _ _ => cases no
  | xco _ _ _ => cases no
  | opq h => exact .raw h
  | non => exact .x (.base .non)
  | bl b => exact .x (.base (.bl b))
  | int i => exact .x (.base (.int i))
  | str x => exact .x (.base (.str x))
  | lst h _ =>
    rcases h with h | ⟨o, h⟩
    · exact .x (.base (.lst h))
    · exact .x (.base (.frz h))
  | tup h _ =>
    rcases h with
                                                                                                                  (h | ⟨o, h⟩) | h
    · exact .x (.base (.tup h))
    · exact .x (.fTuple h)
    · obtain ⟨o, its, n, h1, h2, _⟩ := h
      exact .x (.kTuple h1 h2)
  | dic h _ =>
    rcases h with h | ⟨o, h⟩
    · exact .x (.base (.dK h))
    · exact .x (.fDict h)
  | dit h _ _ =>
    rcases h with h | ⟨o, h⟩
    · exact .x (.base (.dT h))
    · exact .fT h
def isiD (T : String) (d : D) : Option Sl := if isOb d = true ∧ T ∉ plainT then none else (kitB (tyOf d) T).map fun b => .val (.bool b)
theorem no_plain {T : String} {d : D} (h : T ∈ plainT) : ¬ (isOb d = true ∧ T ∉ plainT) := fun z => z.2 h
@[simp] theorem isOb_int (i : Int) : isOb (.int i) = false := rfl
@[simp] theorem isOb_bool (i : Bool) : isOb (.bool i) = false := rfl
@[simp] theorem isOb_str (i : Str) : isOb (.str i) = false := rfl
@[simp] theorem isOb_none : isOb .none = false := rfl
@[simp] theorem isOb_list (i : List D) : isOb (.list i) = false := rfl
@[simp] theorem isOb_tuple (i : List D) : isOb (.tuple i) = false := rfl
@[simp] theorem isOb_dict0 : isOb (.dict []) = false := rfl
@[simp] theorem isOb_dictI (i : Int) (v : D) (r : List (D × D)) : isOb (.dict ((.int i, v) :: r)) = false := rfl
@[simp] theorem isOb_dictS (i : Str) (v : D) (r : List (D × D)) : isOb (.dict ((.str i, v) :: r)) = false := rfl
variable {W : WX} {e : Expr} {f : M Sl}
theorem ve_isi {T : String} {tn : Str} {p p2 pos : Pos} (h : VE X W e f) (hg : Gl X "isinstance") (hm : X.mg "isinstance" = none) (hg2 : Gl X tn) (hm2 : X.mg tn = none) (hb : bootBuiltins tn = some (.type T)) (hn : tn ≠ "__name__" := by decide) (hdb : (tn == ("__debug__" : Str)) = false := by decide)
    (he : starEach [e, .Name tn p2] X.env = (false, eval e X.env) :: starEach [.Name tn p2] X.env := by rfl) (he2 : starEach [.Name tn p2] X.env = (false, eval (.Name tn p2) X.env) :: starEach [] X.env := by rfl) (hpl : (backTo pos (starEach [.Name tn p2] X.env)).any (·.1) = false := by rfl) :
    VE X W (.Call (.Name "isinstance" p) [e, .Name tn p2] [] pos) (vUn (isiD T) f) := fun B =>
  peWk (pe_callB call_isi2 hg hm PyProof.Rows.boot_isinstance (pa_cons (h.d B) (pa_cons (pe_bltn (v := .ty T) hg2 hm2 hb rfl hn hdb) pa_nil he2) he) (by decide) (by decide) he hpl) fun σ H Q ⟨F, en, S, q⟩ => by
    refine ⟨F, en, S, (Post.bind q).imp fun d en1 F1 H1 S1 s1 q1 v rv => ?_⟩
    have k := Post.opt S1 q1
    unfold isiD at k
    by_cases ho : isOb d = true ∧ T ∉ plainT
    · rw [if_pos ho] at k; exact k.elim
    rw [if_neg ho] at k
    cases hk : kitB (tyOf d) T with
    | none => rw [hk] at k; exact k.elim
    | some b =>
      rw [hk] at k
      cases hb : isOb d with
      | false => exact ⟨v, .ty T, .type (tyOf d), .type T, b, rfl, .ty T, .inl ⟨tyx_of (dp_mono S1.sub rv) hb, kit_ty hk⟩, k.val S1.sub (.bl b)⟩
      | true =>
        have hT : T ∈ plainT := Classical.byContradiction fun z => ho ⟨hb, z⟩
        have bf : b = false := by
          have e : tyOf d = "dict" := by
            unfold isOb at hb
            split at hb
            · rfl
            · rfl
            · cases hb
          rw [e] at hk
          have all : ∀ T ∈ plainT, kitB "dict" T = some false := by decide +kernel
          rw [all T hT] at hk
          exact (Option.some.inj hk).symm
        rcases ob_at (dp_mono S1.sub rv) hb with ⟨a, C, tp, nm, rfl, h1, c⟩ | ⟨a, C, dx, vs, ⟨nm, c⟩, rfl, h1, h2⟩
        · exact ⟨.ref a, .ty T, .ref C, .type T, b, rfl, .ty T, .inr (.inl ⟨a, C, tp, nm, rfl, rfl, h1, c, by rw [bf]; exact c.no T hT⟩), k.val S1.sub (.bl b)⟩
        exact ⟨.ref a, .ty T, .ref C, .type T, b, rfl, .ty T, .inr (.inr ⟨a, C, dx, vs, rfl, rfl, .inr ⟨h1, h2⟩, c.cls, c.isi, by rw [bf]; exact c.no T hT⟩), k.val S1.sub (.bl b)⟩

/-! ### a < b < c -/
def vChain (o o2 : D → D → Option Sl) (fa fb fc : M Sl) : M Sl := fun en => (vD fa en).bind fun x e => (vD fb e).bind fun y e2 => match o x y with
  | some (.val (.bool true)) => (vD fc e2).bind fun z e3 => opt (o2 y z) e3
  | some (.val (.bool false)) => .ok (.val (.bool false)) e2
  | _ => .bad
variable {a b c : Expr} {fa fb fc : M Sl}
def rOf (X : Cx) (o : D → D → Option Sl) : R2 := fun x y H Q => ∃ F a b, Same F H ∧ Dp X.K F x a ∧ Dp X.K F y b ∧ Kd X.K F H Q (o a b)
theorem rd_chain {op op2 : CmpOp} {o o2 : D → D → Option Sl} {B : Bs} :
    ∀ σ H Q, tV X.K X.mg B W (vChain o o2 fa fb fc) σ H Q → tChain (rOf X o) (rOf X o2) (tD X.K X.mg B W (vD fa)) (tD X.K X.mg B W (vD fb)) (tD X.K X.mg B W (vD fc)) σ H Q := fun σ H Q ⟨F, en, S, p⟩ => by
  refine ⟨F, en, S, (Post.bind p).imp fun d en1 F1 H1 S1 s1 q v rv => ?_⟩
  refine ⟨F1, en1, S1, (Post.bind q).imp fun d2 en2 F2 H2 S2 s2 q2 v2 rv2 => ?_⟩
  refine ⟨F2, d, d2, S2.sub, dp_mono s2 rv, rv2, ?_⟩
  split at q2
  · rename_i ho
    rw [ho]
    intro F3 H3 w g rw'
    cases rw'
    refine ⟨true, rfl, ?_⟩
    rw [if_pos rfl]
    refine ⟨F3, en2, S2.gr g, (Post.bind (q2.up g.ff)).imp fun d3 en4 F4 H4 S4 s4 q4 v4 rv4 => ?_⟩
    exact ⟨F4, d2, d3, S4.sub, dp_mono (g.ff.trans s4) rv2, rv4, Post.opt S4 q4⟩
  · rename_i ho
    rw [ho]
    intro F3 H3 w g rw'
    cases rw'
    refine ⟨false, rfl, ?_⟩
    rw [if_neg (Bool.false_ne_true)]
    exact q2 F3 H3 (S2.gr g) g.ff _ (.bl false)
  · exact q2.elim
theorem ve_chain {op op2 : CmpOp} {o o2 : D → D → Option Sl} {pos : Pos} (ho : OV X (compareOp op) o) (ho2 : OV X (compareOp op2) o2) (ha : VE X W a fa) (hb : VE X W b fb) (hc : VE X W c fc) (hm : lastMarks [op, op2] [b, c] = false := by with_unfolding_all rfl) :
    VE X W (.Compare a [op, op2] [b, c] pos) (vChain o o2 fa fb fc) := fun B => peWk (pe_chain (r := rOf X o) (r' := rOf X o2) ho ho2 (ha.d B) (hb.d B) (hc.d B) hm) (rd_chain (op := op) (op2 := op2))
theorem vb_chain {op op2 : CmpOp} {o o2 : D → D → Option Sl} {pos : Pos} (ho : OV X (compareOp op) o) (ho2 : OV X (compareOp op2) o2) (ha : VE X W a fa) (hb : VE X W b fb) (hc : VE X W c fc) (hm : lastMarks [op, op2] [b, c] = false := by with_unfolding_all rfl) :
    VB X W (.Compare a [op, op2] [b, c] pos) (vB (vChain o o2 fa fb fc)) := fun B =>
  ptWk (pt_chain (r := rOf X o) (r' := rOf X o2) ho ho2 (ha.d B) (hb.d B) (hc.d B) hm) fun σ H Q ⟨F, en, S, p⟩ => by
    refine rd_chain (op := op) (op2 := op2) σ H _ ⟨F, en, S, ?_⟩
    have p2 : Post X.K X.mg B W σ F (fun b _ _ H' => Q b H') ((vChain o o2 fa fb fc en).bind fun r e => (frzS r e).bind bOf) := by
      have e : vB (vChain o o2 fa fb fc) en = (vChain o o2 fa fb fc en).bind fun r e => (frzS r e).bind bOf := by
        unfold vB vD
        cases vChain o o2 fa fb fc en <;> rfl
      rw [← e]; exact p
    refine (Post.bind p2).imp fun r en1 F1 H1 S1 s1 q v rv => ?_
    cases r with
    | no => exact rv.elim
    | own b xs =>
      obtain ⟨rfl, _⟩ := rv
      exact q.elim
    | val d =>
      cases d with
      | bool k =>
        cases rv
        exact ⟨k, rfl, q F1 H1 S1 (.refl _)⟩
      | _ => exact q.elim

/-! ### x += e, x[k] += e, ints -/
def sAug (i : Nat) (g : Int → Int → Int) (f : M Sl) : MS := fun en => match en[i]? with
  | some (.val (.int x)) => (vD f en).bind fun d e => match d with
    | .int y => .ok .nx (e.set i (.val (.int (g x y))))
    | _ => .bad
  | _ => .bad
theorem vs_aug {i : Nat} {x : Str} {op : Operator} {g : Int → Int → Int} {p pos : Pos} (hN : X.N.Nodup) (ho : PIp X op (ipI g)) (he : VE X W e f) (hi : X.N[i]? = some x := by rfl) (hx : Loc X.env.scope x := by first | exact Or.inl rfl | exact Or.inr rfl)
    (hf : X.fn x = true ∨ X.env.scope.names.lookup x = some .local := by first | exact .inl rfl | exact .inr rfl) : VS X W (.AugAssign (.Name x p) op e pos) (sAug i g f) := fun B =>
  psWk (ps_aug hN hi hx (he.d B) ho hf) fun Dn σ H ⟨F, en, S, q⟩ => by
    unfold sAug at q
    split at q
    · rename_i z hz
      obtain ⟨v, h1, h2⟩ := S.val i _ hz
      cases h2
      refine ⟨_, h1, F, en, S, (PostS.bind q).imp fun d en1 F1 H1 S1 s1 q1 y ry => ?_⟩
      cases d with
      | int k =>
        cases ry
        exact ⟨z, k, rfl, rfl, q1 _ F1 H1 (S1.store (s := .val _) (.int _)) (.refl _)⟩
      | _ => exact q1.elim
    · exact q.elim
def rGetL : V → V → Hp → VK → Prop := fun o i H Q => ∃ p xs k x, o = .ref p ∧ i = .int k ∧ H p = some (.lst xs) ∧ atI xs k = some x ∧ Q x H
theorem get_list : PGet X rGetL := by
  intro pins s σ H o i ov iv Q I ro ri h
  obtain ⟨p, xs, k, x, rfl, rfl, hp, hx, q⟩ := h
  cases ro
  obtain ⟨t, rfl⟩ := ri
  obtain ⟨its, n, r,
                                                                                                                ho, hz⟩ := I.lst hp
  obtain ⟨j, h1, h2⟩ := Option.bind_eq_some_iff.mp hx
  obtain ⟨_, hj, h3, h4⟩ := ixN_seq h1
  have hl := r.length
  have hn := line63
  have hjl :
                                                                                                                j < its.length := by omega
  have rx : RelV x its[j] := by
    obtain ⟨u, e1, e2⟩ := Vals.get r h2
    rw [List.getElem?_eq_getElem hjl] at e1
    rw [Option.some.inj e1]
    exact e2
  have fin : EP X pins σ Q its[j] s := ⟨x, H, I, rx, q⟩
  by_cases h0 : 0 ≤ k
  · have e : k.toNat = j := by
      unfold ixN at h1
      rw [if_pos h0, if_pos h4] at h1
      exact Option.some.inj h1
    exact PySem.wpAny_getItem_list ⟨_, ho, rfl, _, rfl⟩ h0 (by omega) (by rw [e]; simpa using List.getElem?_eq_getElem hjl) fin
  · have e : (k + its.toArray.size).toNat = j := by
      unfold ixN at h1
      rw [if_neg h0, if_pos h3] at h1
      rw [← Option.some.inj h1, List.size_toArray, hl]
    exact PySem.wpAny_getItem_list_neg ⟨_, ho, rfl, _, rfl⟩ (by omega) (by rw [List.size_toArray, ← hl]; exact h3) (by omega) (by rw [e]; simpa using List.getElem?_eq_getElem hjl) fin
def sAugS (i : Nat) (g : Int → Int → Int) (fk f : M Sl) : MS := fun en => ownAt i en fun _ _ => (vD fk en).bind fun k e => ownAt i e fun _ xs => match dIx (.list xs) k with
  | some (.val (.int x)) => (vD f e).bind fun d e2 => match d with
    | .int y => setAt i k (.int (g x y)) e2
    | _ => .bad
  | _ => .bad
theorem vs_augS {i : Nat} {x : Str} {ek : Expr} {fk : M Sl} {op : Operator} {g : Int → Int → Int} {p p2 pos : Pos} (ho : PIp X op (ipI g)) (hk : VE X W ek fk) (he : VE X W e f) (hN : X.N[i]? = some x := by rfl) (hv : Vis X.env.scope x := by first | exact Or.inl rfl | exact Or.inr (Or.inl rfl)) (hd : (x == ("__debug__" : Str)) = false := by decide)
    (hcd : (x == ("__classdict__" : Str)) = false := by decide) (ha : ∀ ov iv new, augStore ek ov iv new = (do holding [new, ov, iv] (setItem ov iv new); release [new, ov, iv] []; pure .next) := by intros; rfl) : VS X W (.AugAssign (.Subscript (.Name x p) ek p2) op e pos) (sAugS i g fk f) := fun B =>
  psWk (ps_augS (pe_var hN hv hd hcd) (hk.d B) get_list (he.d B) ho set_list ha) fun Dn σ H ⟨F, en, S, q⟩ => by
    unfold sAugS ownAt at q
    split at q
    · rename_i b0 xs0 h0
      obtain ⟨a0, vs0, e0, _⟩ := S.slotL h0
      refine ⟨_, e0, F, en, S, (PostS.bind q).imp fun k en1 F1 H1 S1 s1 q1 y ry => ?_⟩
      split at q1
      · rename_i b1 xs h1
        obtain ⟨a1, vs, e1, l1, r1, _⟩ := S1.slotL h1
        rw [e0] at e1
        cases e1
        dsimp only at q1
        split at q1
        · rename_i z hz
          unfold dIx at hz
          cases k with
          | int j =>
            dsimp only at hz
            cases hat : atI xs j with
            | none => rw [hat] at hz; cases hz
            | some d0 =>
              rw [hat] at hz
              cases hz
              obtain ⟨v0, e2, rv0⟩ := dps_atI r1 hat
              cases rv0
              have ryj := ry
              cases ryj
              refine ⟨_, vs, j, _, rfl, rfl, l1, e2, F1, en1, S1, (PostS.bind q1).imp fun d en2 F2 H2 S2 s2 q2 y2 ry2 => ?_⟩
              cases d with
              | int w =>
                cases ry2
                refine ⟨z, w, rfl, rfl, ?_⟩
                obtain ⟨a, e3, st⟩ := setAt_ok S2 (dp_mono s2 ry) (.int (g z w)) q2
                rw [e0] at e3
                cases e3
                exact st
              | _ => exact q2.elim
          | _ => cases hz
        · exact q1.elim
      · exact q1.elim
    · exact q.elim

/-! ### x[::-1] -/
end
end Mv

namespace Mv
open L2 PySem.Spec PySem PyProof.Rows

/-! ### several results, each frozen or a new own list -/
def Rls (K : PySem.W.Frag) (B : Bs) (σ : L2.St) (en : En) (F H : Hp) : List V → List Sl → Prop
  | [], [] => True
  | v :: vs, r :: rs => Rl K B σ en F H v r ∧ (∀ b xs, r = .own b xs → ∀ (j : Nat) b' ys, rs[j]? = some (Sl.own b' ys) → vs[j]? ≠ some v) ∧ Rls K B σ en F H vs rs
  | _, _ => False
section
variable {K : PySem.W.Frag} {mg : Str → Option Value} {B : Bs} {W : WX} {σ : L2.St} {en en' : En} {F F' F1 H H' : Hp} {α : Type}
theorem Rls.len : ∀ {vs : List V} {rs : List Sl}, Rls K B σ en F H vs rs → vs.length = rs.length
  | [], [], _ => rfl
  | _ :: _, _ :: _, h => by rw [List.length_cons, List.length_cons, Rls.len h.2.2]
  | [], _ :: _, h => h.elim
  | _ :: _, [], h => h.elim
theorem Rl.gr {v : V} {r : Sl} (h : Rl K B σ en F H v r) (g : Gr F H F' H') : Rl K B σ en F' H' v r := by
  cases r with
  | no => exact h
  | val d => exact dp_mono g.ff h
  | own b xs =>
    obtain ⟨h0, a, vs, h1, h2, h3, h4, h5⟩ := h
    refine ⟨h0, a, vs, h1, g.hh _ _ h2, ?_, dps_mono g.ff h4, h5⟩
    cases q : F' a with
    | none => rfl
    | some o =>
      rcases g.nw a o q with e | e
      · rw [h3] at e; cases e
      · rw [h2] at e; cases e
theorem Rls.gr (g : Gr F H F' H') : ∀ {vs : List V} {rs : List Sl}, Rls K B σ en F H vs rs → Rls K B σ en F' H' vs rs
  | [], [], _ => trivial
  | _ :: _, _ :: _, h => ⟨h.1.gr g, h.2.1, Rls.gr g h.2.2⟩
  | [], _ :: _, h => h.elim
  | _ :: _, [], h => h.elim
/-- out of a state with one more thing to be kept -/
theorem Rls.outer {F0 : Hp} {a : Addr} {us : List V} : ∀ {vs : List V} {rs : List Sl}, Rls K (B.more F0 a us) σ en F H vs rs → Rls K B σ en F H vs rs ∧ ∀ (j : Nat) b ys, rs[j]? = some (Sl.own b ys) → vs[j]? ≠ some (.ref a)
  | [], [], _ => ⟨trivial, fun j b ys h => by simp at h⟩
  | v :: vs, r :: rs, h => by
    obtain ⟨h1, h2, h3⟩ := h
    obtain ⟨i1, i2⟩ := Rls.outer h3
    have key : Rl K B σ en F H v r ∧ ∀ b ys, r = .own b ys → v ≠ .ref a := by
      cases r with
      | no => exact h1.elim
      | val d => exact ⟨h1, fun _ _ e => by cases e⟩
      | own b xs =>
        obtain ⟨h0, c, ws, rfl, q2, q3, q4, q5, q6, q7⟩ := h1
        have q5' : upd B.Kp a (.lst us) c = none := q5
        have hca : c ≠ a := fun z => by rw [z, upd_same] at q5'; cases q5'
        rw [upd_ne hca] at q5'
        exact ⟨⟨h0, c, ws, rfl, q2, q3, q4, q5', fun z => q6 (.inl z), q7⟩, fun _ _ _ e => hca (by cases e; rfl)⟩
    refine ⟨⟨key.1, h2, i1⟩, fun j b ys hj => ?_⟩
    cases j with
    | zero =>
      simp at hj
      intro e
      simp at e
      exact key.2 b ys hj e
    | succ j => exact i2 j b ys (by simpa using hj)
  | [], _ :: _, h => h.elim
  | _ :: _, [], h => h.elim
theorem Rl.after {i : Nat} {v w : V} {r s : Sl} (hw : Rl K B σ en F H w s) (hd : ∀ b xs, r = .own b xs → ∀ b' ys, s = .own b' ys → w ≠ v) : Rl K B (σ.set i (some v)) (en.set i r) F H w s := by
  cases s with
  | no => exact hw
  | val d => exact hw
  | own b xs =>
    obtain ⟨h0, c, ws, rfl, q2, q3, q4, q5, q6, q7⟩ := hw
    refine ⟨h0, c, ws, rfl, q2, q3, q4, q5, q6, fun k hk e => ?_⟩
    rcases isOwn_set hk with ⟨rfl, b', ys, hr⟩ | ⟨hki, hk⟩
    · rw [List.getElem?_set, if_pos rfl] at e
      split at e
      · exact hd b' ys hr b xs rfl (by cases e; rfl)
      · cases e
    · rw [List.getElem?_set_ne (Ne.symm hki)] at e
      exact q7 k hk e
theorem Rls.after {i : Nat} {v : V} {r : Sl} : ∀ {vs : List V} {rs : List Sl}, Rls K B σ en F H vs rs → (∀ b xs, r = .own b xs → ∀ (j : Nat) b' ys, rs[j]? = some (Sl.own b' ys) → vs[j]? ≠ some v) → Rls K B (σ.set i (some v)) (en.set i r) F H vs rs
  | [], [], _, _ => trivial
  | w :: vs, s :: rs, h, hd => ⟨h.1.after fun b xs e b' ys e2 e3 => hd b xs e 0 b' ys (by rw [e2]; rfl) (by rw [e3]; rfl), h.2.1, Rls.after h.2.2 fun b xs e j b' ys hj => by
      have := hd b xs e (j + 1) b' ys (by simpa using hj)
      simpa using this⟩
  | [], _ :: _, h, _ => h.elim
  | _ :: _, [], h, _ => h.elim
def storeV : List Nat → List V → L2.St → L2.St
  | i :: is, v :: vs, σ => storeV is vs (σ.set i (some v))
  | _, _, σ => σ
def storeE : List Nat → List Sl → En → Option En
  | [], [], e => some e
  | i :: is, r :: rs, e => storeE is rs (e.set i r)
  | _, _, _ => none
theorem storeE_len : ∀ {is : List Nat} {rs : List Sl} {e e' : En}, storeE is rs e = some e' → rs.length = is.length
  | [], [], _, _, _ => rfl
  | _ :: is, _ :: rs, e, e', h => by rw [List.length_cons, List.length_cons, storeE_len (is := is) h]
  | [], _ :: _, _, _, h => by cases h
  | _ :: _, [], _, _, h => by cases h
theorem Rls.store : ∀ {is : List Nat} {vs : List V} {rs : List Sl} {σ : L2.St} {en en' : En}, Sim K B σ en F H → Rls K B σ en F H vs rs → storeE is rs en = some en' → Sim K B (storeV is vs σ) en' F H
  | [], [], [], σ, en, en', S, _, h => by cases h; exact S
  | i :: is, v :: vs, r :: rs, σ, en, en', S, R, h => Rls.store (is := is) (S.store R.1) (R.2.2.after R.2.1) h
  | [], _ :: _, [], _, _, _, _, R, _ => R.elim
  | _, [], _ :: _, _, _, _, _, R, _ => R.elim
  | [], _ :: _, _ :: _, _, _, _, _, _, h => by cases h
  | _ :: _, [], [], _, _, _, _, _, h => by cases h
  | _ :: _, _ :: _, [], _, _, _, _, R, _ => R.elim
/-- the same, under one more thing to be kept -/
theorem Post.more {a : Addr} {us : List V} {r : R α} {k k2 : α → En → Hp → Hp → Prop} (S0 : Sim K B σ en F H) (hk : B.Kp a = none) (ha : F a = none) (p : Post K mg B W σ F k r)
    (h : ∀ x e F' H', Sim K (B.more F a us) σ e F' H' → Sim K B σ e F' H' → H' a = some (.lst us) → F' a = none → (∀ i, isOwn e i → σ[i]? ≠ some (some (.ref a))) → Same F F' → k x e F' H' → k2 x e F' H') : Post K mg (B.more F a us) W σ F k2 r := by
  cases r with
  | bad => exact p
  | exc c fs e =>
    intro F' H' cls d S s
    exact p F' H' cls d (S.outer S0.f0 S0.new hk ha).1 s
  | ok x e =>
    intro F' H' S s
    obtain ⟨S1, h1, h2, h3⟩ := S.outer S0.f0 S0.new hk ha
    exact h x e F' H' S S1 h1 h2 h3 s (p F' H' S1 s)
def tLs (K : PySem.W.Frag) (mg : Str → Option Value) (B : Bs) (W : WX) (g : M (List Sl)) : TA := fun σ H Q => ∃ F en, Sim K B σ en F H ∧ Post K mg B W σ F (fun rs en' F' H' => ∀ vs, Rls K B σ en' F' H' vs rs → Q vs H') (g en)
end
def VLs (X : Cx) (W : WX) (es : List Expr) (g : M (List Sl)) : Prop := ∀ B, PA X es (tLs X.K X.mg B W g)
def lNil : M (List Sl) := fun en => .ok [] en
def lCons (f : M Sl) (g : M (List Sl)) : M (List Sl) := fun en => (f en).bind fun r e => (g e).bind fun rs e2 => .ok (r :: rs) e2
section
variable {X : Cx} {W : WX} {e : Expr} {es : List Expr} {f : M Sl} {pos : Pos}
theorem vls_nil : VLs X W [] lNil := fun B => paWk pa_nil fun σ H Q ⟨F, en, S, p⟩ => p F H S (.refl _) [] trivial
theorem vls_cons {g : M (List Sl)} (h : VE X W e f) (hr : VLs X W es g) (hs : starEach (e :: es) X.env = (false, eval e X.env) :: starEach es X.env := by rfl) : VLs X W (e :: es) (lCons f g) := fun B =>
  paWk (pa_cons (h B) (t := fun σ H Q => ∃ B', tLs X.K X.mg B' W g σ H Q) ⟨fun pos pins s σ H Q I ⟨B', q⟩ => (hr B').run pos pins s σ H Q I q⟩ hs) fun σ H Q ⟨F, en, S, p⟩ => by
    refine ⟨F, en, S, (Post.bind p).imp fun r en1 F1 H1 S1 s1 q v rv => ?_⟩
    cases r with
    | no => exact rv.elim
    | val d =>
      refine ⟨B, F1, en1, S1, (Post.bind q).imp fun rs en2 F2 H2 S2 s2 q2 vs rvs => ?_⟩
      exact q2 F2 H2 S2 (.refl _) _ ⟨dp_mono s2 rv, fun b xs z => (by cases z), rvs⟩
    | own b xs =>
      obtain ⟨h0, a, us, rfl, h2, h3, h4, h5, h6, h7⟩ := rv
      refine ⟨B.more F1 a us, F1, en1, S1.under (.refl _) (fun c o z => .inl z) h2 h7, ?_⟩
      refine Post.more S1 h5 h3 (Post.bind q) fun rs en2 F2 H2 Sm S2 k1 k2 k3 s2 q2 vs rvs => ?_
      obtain ⟨i1, i2⟩ := rvs.outer
      exact q2 F2 H2 S2 (.refl _) _ ⟨⟨h0, a, us, rfl, k1, k2, dps_mono s2 h4, h5, h6, k3⟩, fun _ _ _ j b' ys hj => i2 j b' ys hj, i1⟩

/-! ### a, b = x, y -/
def sPar (is : List Nat) (g : M (List Sl)) : MS := fun en => (g en).bind fun rs e => match storeE is rs e with
  | some e2 => .ok .nx e2
  | none => .bad
variable {g : M (List Sl)} {a b c : Expr} {x y z : Str} {px py pz pt pt2 : Pos} {kt k2 : Nat}
theorem rd_par {B : Bs} {Dn : Ends} {σ : L2.St} {H : Hp} {is : List Nat} (h : tS X.K X.mg B W (sPar is g) Dn σ H) : tLs X.K X.mg B W g σ H fun vs H1 => vs.length = is.length ∧ Dn.nx (storeV is vs σ) H1 := by
  obtain ⟨F, en, S, p⟩ := h
  refine ⟨F, en, S, (PostS.bind p).imp fun rs en1 F1 H1 S1 s1 q vs rvs => ?_⟩
  cases hs : storeE is rs en1 with
  | none => rw [hs] at q; exact q.elim
  | some e2 =>
    rw [hs] at q
    exact ⟨rvs.len.trans (storeE_len hs), q _ F1 H1 (rvs.store S1 hs) (.refl _)⟩
theorem vs_par2 {i j : Nat} (hc : X.calm = true) (hN : X.N.Nodup) (ha : VLs X W [a, b] g) (hw : swappedStores [.Tuple [.Name x px, .Name y py] kt pt] (.Tuple [a, b] k2 pt2) X.env = pure (some [x, y]))
    (hx : X.env.scope.names.lookup x = some .local) (hy : X.env.scope.names.lookup y = some .local) (hi : X.N[i]? = some x := by rfl) (hj : X.N[j]? = some y := by rfl) (hij : i ≠ j := by decide)
    (hs : swapsWithSole [.Tuple [.Name x px, .Name y py] kt pt] (.Tuple [a, b] k2 pt2) pos.line X.env = pure false := by rfl) : VS X W (.Assign [.Tuple [.Name x px, .Name y py] kt pt] (.Tuple [a, b] k2 pt2) pos) (sPar [i, j] g) := fun B =>
  psWk (ps_par hc hN hi hj hij hx hy (ha B) hw hs) fun Dn σ H h => by
    obtain ⟨F, en, S, p⟩ := rd_par h
    refine ⟨F, en, S, p.imp fun rs en1 F1 H1 S1 s1 q vs rvs => ?_⟩
    obtain ⟨hl, q⟩ := q vs rvs
    match vs, hl, q with
    | [v, w], _, q => exact ⟨v, w, rfl, q⟩
theorem vs_par3 {i j l : Nat} (hc : X.calm = true) (hN : X.N.Nodup) (ha : VLs X W [a, b, c] g) (hw : swappedStores [.Tuple [.Name x px, .Name y py, .Name z pz] kt pt] (.Tuple [a, b, c] k2 pt2) X.env = pure (some [x, y, z]))
    (hx : X.env.scope.names.lookup x = some .local) (hy : X.env.scope.names.lookup y = some .local) (hz : X.env.scope.names.lookup z = some .local) (hi : X.N[i]? = some x := by rfl) (hj : X.N[j]? = some y := by rfl) (hl : X.N[l]? = some z := by rfl) (hij : i ≠ j := by decide) (hil : i ≠ l := by decide) (hjl : j ≠ l := by decide)
    (hs : swapsWithSole [.Tuple [.Name x px, .Name y py, .Name z pz] kt pt] (.Tuple [a, b, c] k2 pt2) pos.line X.env = pure false := by rfl) : VS X W (.Assign [.Tuple [.Name x px, .Name y py, .Name z pz] kt pt] (.Tuple [a, b, c] k2 pt2) pos) (sPar [i, j, l] g) := fun B =>
  psWk (ps_par3 hc hN hi hj hl hij hil hjl hx hy hz (ha B) hw hs) fun Dn σ H h => by
    obtain ⟨F, en, S, p⟩ := rd_par h
    refine ⟨F, en, S, p.imp fun rs en1 F1 H1 S1 s1 q vs rvs => ?_⟩
    obtain ⟨hl, q⟩ := q vs rvs
    match vs, hl, q with
    | [u, v, w], _, q => exact ⟨u, v, w, rfl, q⟩
/-- any names -/
def VNs (X : Cx) (ts : List Expr) (is : List Nat) : Prop := PGs X ts (fun vs σ H Q => vs.length = is.length ∧ Q (storeV is vs σ) H)
theorem vns_nil : VNs X [] [] := pgsWk pgs_nil fun vs σ H Q ⟨hl, q⟩ => by
  cases vs with
  | nil => exact ⟨rfl, q⟩
  | cons _ _ => cases hl
theorem vns_cons {i : Nat} {ts : List Expr} {is : List Nat} {p : Pos} (hN : X.N.Nodup) (h : VNs X ts is) (hi : X.N[i]? = some x := by rfl) (hx : Loc X.env.scope x := by first | exact Or.inl rfl | exact Or.inr rfl)
    (hf : X.fn x = true ∨ X.env.scope.names.lookup x = some .local := by first | exact .inl rfl | exact .inr rfl) (hs : (assignEach (.Name x p :: ts) X.env).map (·.2) = assign (.Name x p) X.env :: (assignEach ts X.env).map (·.2) := by rfl) : VNs X (.Name x p :: ts) (i :: is) :=
  pgsWk (pgs_cons (pg_name hN hi hx hf) h hs) fun vs σ H Q ⟨hl, q⟩ => by
    cases vs with
    | nil => cases hl
    | cons v vs => exact ⟨v, vs, rfl, by simpa using hl, q⟩
theorem vs_parN {ts es : List Expr} {is : List Nat} (hc : X.calm = true) (hn : VNs X ts is) (ha : VLs X W es g) (hlim : is.length ≤ 1000 := by decide) (hs : swapsWithSole [.Tuple ts kt pt] (.Tuple es k2 pt2) pos.line X.env = pure false := by rfl) (hw : swappedStores [.Tuple ts kt pt] (.Tuple es k2 pt2) X.env = pure none := by rfl)
    (h1 : (assignEach [.Tuple ts kt pt] X.env).map (·.2) = [assign (.Tuple ts kt pt) X.env] := by rfl) (h2 : (assignEach ts X.env).length = is.length := by rfl) (hst : (assignEach ts X.env).findIdx? (·.1) = none := by rfl) :
    VS X W (.Assign [.Tuple ts kt pt] (.Tuple es k2 pt2) pos) (sPar is g) := fun B =>
  psWk (ps_asg (pe_tup (ha B)) (pg_tup hc hn h2 hst) hs hw h1) fun Dn σ H h => by
    obtain ⟨F, en, S, p⟩ := h
    refine ⟨F, en, S, (PostS.bind p).imp fun rs en1 F1 H1 S1 s1 q vs rvs => ?_⟩
    cases hs : storeE is rs en1 with
    | none => rw [hs] at q; exact q.elim
    | some e2 =>
      rw [hs] at q
      have hl : vs.length = is.length := rvs.len.trans (storeE_len hs)
      refine ⟨by rw [hl]; exact lim_line (Nat.le_trans hlim (by decide)), fun pp hp => ⟨pp, vs, rfl, .inl (.inl upd_same), hl, hl, ?_⟩⟩
      have gr : Gr F1 H1 F1 (upd H1 pp (.tup vs)) := Gr.made S1.sub hp
      exact q _ F1 _ ((rvs.gr gr).store (S1.gr gr) hs) (.refl _)

/-! ### [*a, b] -/
def vStar (f : M Sl) (g : M (List D)) : M (List D) := fun en => (vD f en).bind fun d e => match seqOf d with
  | some xs => (g e).bind fun ds e2 => .ok (xs ++ ds) e2
  | none => .bad
end
end Mv

namespace Mv
open L2 PySem.Spec PySem PyProof.Rows

/-- no list stands in what the top has written -/
def noLists (K : PySem.W.Frag) : Bool := K.all fun p => match p.2.cls with
  | .type t => t != "list"
  | _ => true
theorem noLists_none {K : PySem.W.Frag} (h : noLists K = true) {a : Addr} {o : Obj} (hk : K.lookup a = some o) (hc : o.cls = .type "list") : False := by
  have mem : ∀ {l : List (Addr × Obj)}, l.lookup a = some o → (a, o) ∈ l := by
    intro l
    induction l with
    | nil => intro e; cases e
    | cons p l ih =>
      obtain ⟨b, u⟩ := p
      intro e
      rw [List.lookup_cons] at e
      split at e
      · rename_i hb
        cases e
        rw [eq_of_beq hb]
        exact List.mem_cons_self
      · exact List.mem_cons_of_mem _ (ih e)
  have z := List.all_eq_true.mp h _ (mem hk)
  rw [hc] at z
  exact absurd z (by decide)

/-- the script's place, and its number list -/
def scriptHp (a : Addr) (vs : List Value) (ns : List Int) : Hp := fun b => if b = a then some (.frz { cls := .type "list", data := .seq vs.toArray } (.lst (ns.map V.int))) else none
/-- the law, called: what it answers is True -/
theorem law_callG {P : Program} {w : World} {K : PySem.W.Frag} {mg mb : Str → Option Value} {k : Nat} {fa a : Addr} {fd : FuncData} {x : Str} {m : List D → Option Out} {sh : Shared} {vs : List Value} {ns : List Int}
    (inK : K.In sh.heap) (nsG : sh.heap.Ns mainGlobals mg) (nsB : sh.heap.Ns builtinsNs mb) (boots : ∀ y : Str, y ≠ "__name__" → mb y = bootBuiltins y) (noLim : sh.heap.NoLimit) (noGens : sh.gens = #[])
    (scr : sh.heap.get? a = some { cls := .type "list", data := .seq vs.toArray }) (isInts : IntsAre vs ns) (few : ns.length ≤ sizeLine) (room : RoomG k callerA) (nl : noLists K = true)
    (F : ∀ base : Heap, K.In base → base.Ns mainGlobals mg → FnG P w K mg base k fa fd [x] (spV K mg m)) (bind : ∀ (s : Shared) (u : Value), BindsTo s fd ⟨[u], []⟩ [(x, u)])
    (ans : m [.list (ns.map .int)] = some (.ret (.val (.bool true)))) :
    codeAny (model P w) callerA (.call (.ref fa) ⟨[.ref a], []⟩) (fun r s' => r = .ok (.ret (.bool true)) ∧ OldK sh.heap s'.heap ∧ s'.os = sh.os ∧ AllBare s'.gens) sh := by
  have rels := vals_ints isInts
  have hka : K.lookup a = none := by
    cases q : K.lookup a with
    | none => rfl
    | some o =>
      have e := inK a o q
      rw [scr] at e
      cases e
      exact (noLists_none nl q rfl).elim
  have at_a : scriptHp a vs ns a = some (.frz { cls := .type "list", data := .seq vs.toArray } (.lst (ns.map V.int))) := if_pos rfl
  have off_a : ∀ {b : Addr}, b ≠ a → scriptHp a vs ns b = none := fun h => if_neg h
  have inBase : ∀ {b : Addr} {o : Obj}, sh.heap.get? b = some o → b ≠ a → (hidT sh.heap (scriptHp a vs ns)).get? b = some o := fun e h => hidT_get e (off_a h)
  have dictBase : ∀ {b : Addr} {m : Str → Option Value}, sh.heap.Ns b m → (hidT sh.heap (scriptHp a vs ns)).Ns b m := fun {b m} ⟨o, es, ep, e, dd, r⟩ => by
    refine ⟨o, es, ep, inBase e fun z => ?_, dd, r⟩
    subst z
    rw [scr] at e
    cases e
    cases (show Data.seq vs.toArray _ = Data.dict es ep from dd)
  have kBase : K.In (hidT sh.heap (scriptHp a vs ns)) := fun b o e => inBase (inK b o e) fun z => by
    subst z
    rw [hka] at e
    cases e
  have md : Mod K mg (hidT sh.heap (scriptHp a vs ns)) := ⟨kBase, dictBase nsG, ⟨mb, dictBase nsB, boots⟩, let ⟨mc, h1, h2⟩ := noLim; ⟨mc, dictBase h1, h2⟩⟩
  have ok : HOk P w (scriptHp a vs ns) sh.heap := fun b u z => by
    by_cases h : b = a
    · subst h
      rw [at_a] at z
      cases z
      exact ⟨scr, by rw [List.length_map]; exact few, vs, _, rels, scr⟩
    · rw [off_a h] at z
      cases z
  have env : Env0 P w K mg (hidT sh.heap (scriptHp a vs ns)) callerA [] sh (scriptHp a vs ns) := ⟨rfl, md, fun b o e => of_hidT e, Nat.le_of_eq (hidT_size _ _), trivial, fun b hb => (List.not_mem_nil hb).elim, ok, .of_eq noGens⟩
  have args : DpAll K (scriptHp a vs ns) [.ref a] [.list (ns.map .int)] := by
    have go : ∀ ms : List Int, DpAll K (scriptHp a vs ns) (ms.map V.int) (ms.map PyData.int) := fun ms => by
      induction ms with
      | nil => exact .nil
      | cons n ms ih => exact .cons (.int n) ih
    exact .cons (.lst (.inr ⟨_, at_a⟩) (go ns)) .nil
  have prom : spV K mg m [.ref a] (scriptHp a vs ns) (fun v _ => v = .bl true) (fun _ _ _ => False) := by
    refine ⟨scriptHp a vs ns, _, .refl _, args, ?_⟩
    rw [ans]
    intro F' H' v g r
    cases (show Dp K F' v (.bool true) from r)
    rfl
  refine codeAny_mono ((F _ kBase (dictBase nsG)).run callerA [] sh (scriptHp a vs ns) ⟨[.ref a], []⟩ [.ref a] [.ref a] _ _ room env (bind sh (.ref a)) (.cons rfl .nil) prom) fun r s' out => ?_
  cases r with
  | error e =>
    obtain ⟨_, _, _, _, _, _, _, _, _, _, _, _, no⟩ := out
    exact no.elim
  | ok fl =>
    cases fl with
    | next => exact False.elim out
    | brk => exact False.elim out
    | cont => exact False.elim out
    | ret u =>
      obtain ⟨v, H', os, bare, un, ok', ru, q⟩ := out
      cases (show v = V.bl true from q)
      cases (show u = Value.bool true from ru)
      refine ⟨rfl,
                                                                                                                    OldK.of_keep fun b o e => ?_, os, bare⟩
      by_cases h : b = a
      · subst h
        have z2 := un.frzs b _ _ at_a
        obtain ⟨e2, _⟩ := ok' b _ z2
        rw [scr] at e
        cases e
        exact e2
      · exact un.keep b o e (off_a h) (fun z => (List.not_mem_nil z).elim) (by simp)
theorem law_walk {l : PySem.W.OpenLaw} {n k : Nat} {q : Program} {loose : List Str} {XP : (Str → Option Value) → Heap → Prop} {YP : World → Heap → Prop} {d : DefRec} {K : Params → PySem.W.Frag} {x : Str} {m : List D → Option Out}
    (hn : l.most = some n) (hn2 : n ≤ sizeLine) (hdf : d.params.defaults = []) (room : RoomG k callerA)
    (hY : ∀ (w : World) (h : Heap),
                                                                                                                  YP w h → (K w.params).In h)
    (F : ∀ (w : World) (mg : Str → Option Value) (fa : Addr) (h : Heap),
                                                                                                                  (K w.params).In h → h.Ns mainGlobals mg → mg d.name = some (.ref fa) →
      noLists (K w.params) = true ∧ ∃ fd : FuncData, (∀ (s : Shared) (u : Value), BindsTo s fd ⟨[u], []⟩ [(x, u)]) ∧
        ∀ base : Heap, (K w.params).In base → base.Ns mainGlobals mg → FnG l.prog w (K w.params) mg base k fa fd [x] (spV (K w.params) mg m))
    (ans : ∀ ns : List Int, ns.length ≤ n → m [.list (ns.map .int)] = some (.ret (.val (.bool true)))) :
    PySem.W.WalkO q loose XP YP l.row.toRowW d []
                                                                                                                  (fun f vs => PySem.call f vs) := by
  refine Att.attach_call hn hdf fun w s₀ sh mg mb fa o pm cd doc a vs ns G Y ho hd hcd hmg scr isInts few hg => ?_
  have inK := hY w _ Y
  obtain ⟨nl, fd, bind, hF⟩ := F w mg fa _ inK G.T.g hmg
  exact law_callG inK G.T.g G.T.b G.T.builtins G.T.nolimit hg scr isInts (Nat.le_trans few hn2) room nl hF bind (ans ns few)
end Mv

namespace Mv
open L2 PySem.Spec PySem PyProof.Rows

/-! ### what the printed walks lean on -/
theorem bo_abs : bootBuiltins "abs" = some (.builtin "abs") := by decide +kernel
theorem bo_repr : bootBuiltins "repr" = some (.builtin "repr") := by decide +kernel
theorem bo_all : bootBuiltins "all" = some (.builtin "all") := by decide +kernel
theorem bo_max : bootBuiltins "max" = some (.builtin "max") := by decide +kernel
theorem bo_min : bootBuiltins "min" = some (.builtin "min") := by decide +kernel
theorem bo_sorted : bootBuiltins "sorted" = some (.builtin "sorted") := by decide +kernel
theorem bo_int : bootBuiltins "int" = some (.type "int") := by decide +kernel
theorem bo_bool : bootBuiltins "bool" = some (.type "bool") := by decide +kernel
theorem bo_str : bootBuiltins "str" = some (.type "str") := by decide +kernel
theorem bo_tuple : bootBuiltins "tuple" = some (.type "tuple") := by decide +kernel
theorem bo_list : bootBuiltins "list" = some (.type "list") := by decide +kernel
/-- the built-ins that the texts name -/
structure Blt (mg : Str → Option Value) : Prop where
  len : mg "len" = none
  abs : mg "abs" = none
  repr : mg "repr" = none
  all : mg "all" = none
  sum : mg "sum" = none
  max : mg "max" = none
  min : mg "min" = none
  sorted : mg "sorted" = none
  int : mg "int" = none
  bool : mg "bool" = none
  str : mg "str" = none
  tuple : mg "tuple" = none
  list : mg "list" = none
  dict : mg "dict" = none
  set : mg "set" = none
  isinstance : mg "isinstance" = none
  range : mg "range" = none
  enumerate : mg "enumerate" = none
  zip : mg "zip" = none
/-- a constant of the module: a tuple of values -/
structure GC (K : PySem.W.Frag) (mg : Str → Option Value) (x : Str) (d : D) : Prop where
  ex : ∃ (v : V) (u : Value), mg x = some u ∧ RelV v u ∧ ∀ F, Dp K F v d
section
variable {X : Cx} {W : WX} {pos : Pos} {x : Str} {d : D} {a b tg : Expr} {g : M (List D)} {p tpos : Pos} {elts : List Expr} {kk : Nat}
theorem ve_gc (h : GC X.K X.mg x d) (hg : Gl X x := by rfl) (hd : (x == ("__debug__" : Str)) = false := by decide) : VE X W (.Name x pos) (vC d) :=
  let ⟨_, _, hm, r, dv⟩ := h.ex
  ve_glob hg hm r dv hd
theorem tk0 : Takes X W0 := fun u s' ⟨_, _, _, _, _, _, _, _, _, _, _, _, _, _, _, _, h⟩ => h.elim
def rngR : List D → En → R (List D) := fun ds e => match ds with
    | [.int j] => if j.natAbs < 1000000000 then .ok (rngD 0 j.toNat) e else .bad
    | _ => .bad
def vRng1 (g : M (List D)) : M (List D) := fun en => (g en).bind rngR
def vEnum (g : M (List D)) : M (List D) := fun en => (g en).bind fun ds e => match ds with
    | [d] => match seqOf d with
      | some es => .ok (enumD es) e
      | none => .bad
    | _ => .bad
def vZip (g : M (List D)) : M (List D) := fun en => (g en).bind fun ds e => match ds with
    | [d, d2] => match seqOf d, seqOf d2 with
      | some es, some es2 => .ok (zipD es es2) e
      | _, _ => .bad
    | _ => .bad
theorem wi_range1 (hg : Gl X "range") (hm : X.mg "range" = none) (ha : VDs X W [a] g) (hs : starEach [a] X.env = [(false, eval a X.env)] := by rfl) : VI X W tg (.Call (.Name "range" p) [a] [] pos) (vRng1 g) := vi_range1 hg hm ha hs
/-- what a def's text computes, by fuel -/
def runM (k n : Nat) (g : Nat → MS) (fu : List D → Nat) : List D → Option Out := fun ds => if ds.length = k then outOf (g (fu ds) (startE n ds)) else none
def runB (k n : Nat) (g : Nat → MS) (fu : List D → List D → Nat) : List D → List D → Option (Out × List D) := fun xs ds => if ds.length + 1 = k then outB (g (fu xs ds) (.own true xs :: startE (n - 1) ds)) else none
end
section
variable {P : Program} {w : World} {K : PySem.W.Frag} {mg : Str → Option Value} {base : Heap} {x qual : Str} {st : Stmt} {f : Addr} {fd : FuncData} {N ps : List Str} {k : Nat}
theorem fnv_run {g : Nat → MS} {fu : List D → Nat} (F : Fun K x qual st f fd) (S : FnScope N ps (defScope st)) (hm : mg x = some (.ref f)) (b : Binds K fd ps [])
    (body : ∀ (n : Nat) (cdv : Value) (A : Around) (outer : List Env) (s : Shared) (H : Hp) (E : XK), RoomG k (A.deeper (envOfC qual (defScope st) s.heap.objs.size f cdv)) →
      VSs (bodyX P w K mg base N qual st f cdv A outer s H E) (fun cls d _ H => E cls d H) (defBody st) (g n)) : FnV P w K mg base x (k + 1) (runM ps.length N.length g fu) :=
  fnv_mk F S hm b (fun ds o h => by
    unfold runM at h
    split at h
    · assumption
    · cases h) g body fun ds o h => ⟨fu ds, by
    unfold runM at h
    split at h
    · exact h
    · cases h⟩
theorem fng_run {g : Nat → MS} {fu : List D → Nat} (F : Fun K x qual st f fd) (S : FnScope N ps (defScope st))
    (body : ∀ (n : Nat) (cdv : Value) (A : Around) (outer : List Env) (s : Shared) (H : Hp) (E : XK), RoomG k (A.deeper (envOfC qual (defScope st) s.heap.objs.size f cdv)) →
      VSs (bodyX P w K mg base N qual st f cdv A outer s H E) (fun cls d _ H => E cls d H) (defBody st) (g n)) : FnG P w K mg base (k + 1) f fd ps (spV K mg (runM ps.length N.length g fu)) :=
  fng_mk F S (fun ds o h => by
    unfold runM at h
    split at h
    · assumption
    · cases h) g body fun ds o h => ⟨fu ds, by
    unfold runM at h
    split at h
    · exact h
    · cases h⟩
theorem fnb_run {g : Nat → MS} {fu : List D → List D → Nat} (F : Fun K x qual st f fd) (S : FnScope N ps (defScope st)) (hm : mg x = some (.ref f)) (b : Binds K fd ps [])
    (body : ∀ (n : Nat) (cdv : Value) (A : Around) (outer : List Env) (s : Shared) (H : Hp) (E : XK), RoomG k (A.deeper (envOfC qual (defScope st) s.heap.objs.size f cdv)) →
      VSs (bodyX P w K mg base N qual st f cdv A outer s H E) (fun cls d _ H => E cls d H) (defBody st) (g n)) : FnB P w K mg base x (k + 1) (runB ps.length N.length g fu) :=
  fnb_mk F S hm b (fun xs ds o h => by
    unfold runB at h
    split at h
    · assumption
    · cases h) g body fun xs ds o h => ⟨fu xs ds, by
    unfold runB at h
    split at h
    · exact h
    · cases h⟩
end
/-- a constant's value, where the module's names lie -/
structure GV (K : PySem.W.Frag) (u : Value) (d : D) : Prop where
  ex : ∃ v : V, RelV v u ∧ ∀ F, Dp K F v d
structure GVs (K : PySem.W.Frag) (us : List Value) (ds : List D) : Prop where
  ex : ∃ vs : List V, Vals vs us ∧ ∀ F, DpAll K F vs ds
section
variable {K : PySem.W.Frag}
theorem gv_int (i : Int) (t : Tok) : GV K (.int i t) (.int i) := ⟨.int i, ⟨t, rfl⟩, fun _ => .int i⟩
end
/-- a def of the module, where the module's names lie -/
structure At (K : PySem.W.Frag) (x : Str) (st : Stmt) : Prop where
  ex : ∃ (f : Addr) (fd : FuncData), PySem.W.nsIn K mainGlobals x = some (some (.ref f)) ∧ Fun K x x st f fd ∧ (fd.defaults = .none)
theorem at_mk {K : PySem.W.Frag} {x : Str} {st : Stmt} {f : Addr} {oc : Value} {od an : Option Addr} {osl : Array (Option Value)} {kV doc pm cdv ct : Value} (a : PySem.W.nsIn K mainGlobals x = some (some (.ref f)))
    (l : K.lookup f = some ⟨oc, od, .func (PySem.W.fnOf x x (defArgs st) (defBody st) (defScope st) .none kV doc pm an cdv ct), osl⟩) (c : PySem.W.codeIn K cdv x = true) (k : PySem.W.keepIn K (.ref f) = true) : At K x st := ⟨f, _, a, fun_mk l c k, rfl⟩
/-- the built-ins' names are free -/
theorem bt_mk {K : PySem.W.Frag} {h : Heap} {mg : Str → Option Value} (X : K.In h) (G : h.Ns mainGlobals mg) (z : ∀ y ∈ (["len", "abs", "repr", "all", "sum", "max", "min", "sorted", "int", "bool", "str", "tuple", "list", "dict", "set", "isinstance", "range", "enumerate", "zip"] : List Str), PySem.W.nsIn K mainGlobals y = some none) : Blt mg :=
  have go : ∀ y ∈ (["len", "abs", "repr", "all", "sum", "max", "min", "sorted", "int", "bool", "str", "tuple", "list", "dict", "set", "isinstance", "range", "enumerate", "zip"] : List Str), mg y = none := fun y hy => PySem.W.mg_none_of X G (z y hy)
  ⟨go _ (by simp), go _ (by simp), go _ (by simp), go _ (by simp), go _ (by simp), go _ (by simp), go _ (by simp), go _ (by simp), go _ (by simp), go _ (by simp), go _ (by simp), go _ (by simp), go _ (by simp), go _ (by simp), go _ (by simp), go _ (by simp), go _ (by simp), go _ (by simp), go _ (by simp)⟩
structure GU (K : PySem.W.Frag) (x : Str) (d : D) : Prop where
  ex : ∃ u : Value, PySem.W.nsIn K mainGlobals x = some (some u) ∧ GV K u d
theorem gu_mk {K : PySem.W.Frag} {x : Str} {d : D} {u : Value} (a : PySem.W.nsIn K mainGlobals x = some (some u)) (v : GV K u d) : GU K x d := ⟨u, a, v⟩
theorem GU.gc {K : PySem.W.Frag} {x : Str} {d : D} {h : Heap} {mg : Str → Option Value} (U : GU K x d) (X : K.In h) (G : h.Ns mainGlobals mg) : GC K mg x d :=
  let ⟨_, a, ⟨⟨v, r, dv⟩⟩⟩ := U.ex
  ⟨v, _, PySem.W.mg_of X G a, r, dv⟩
end Mv

namespace Mv
open L2 PySem.Spec PySem PyProof.Rows

/-! ### truth -/
def tru : D → Option Bool
  | .none => some false
  | .bool b => some b
  | .int i => some (i != 0)
  | .str z => if z.length ≤ LIM then some (decide (0 < z.length)) else none
  | .list xs => some (!xs.isEmpty)
  | .tuple xs => some (!xs.isEmpty)
  | _ => none
@[simp] theorem tru_none : tru .none = some false := rfl
@[simp] theorem tru_bool (b : Bool) : tru (.bool b) = some b := rfl
@[simp] theorem tru_int (i : Int) : tru (.int i) = some (i != 0) := rfl
@[simp] theorem tru_list (xs : List D) : tru (.list xs) = some (!xs.isEmpty) := rfl
@[simp] theorem tru_tuple (xs : List D) : tru (.tuple xs) = some (!xs.isEmpty) := rfl
def truE (d : D) (e : En) : R Bool := match tru d with
  | some b => .ok b e
  | none => .bad
def vTr (f : M Sl) : M Bool := fun en => (vD f en).bind truE
def vOrT (f g : M Sl) : M Sl := fun en => (vD f en).bind fun d e => (truE d e).bind fun b e2 => if b = true then .ok (.val d) e2 else g e2
def vAndT (f g : M Sl) : M Sl := fun en => (vD f en).bind fun d e => (truE d e).bind fun b e2 => if b = true then g e2 else .ok (.val d) e2
section
variable {X : Cx} {W : WX} {a b e : Expr} {rest : List Expr} {pos : Pos} {fa fb f : M Sl}
end

/-! ### list(range(n)) -/
section
variable {X : Cx} {W : WX} {a : Expr} {p p2 pos pos2 : Pos} {f : M Sl}
theorem dps_rg {K : PySem.W.Frag} {F : Hp} (n : Int) : DpAll K F (rgV 0 n) (rngD 0 n.toNat) := by
  unfold rgV rngD
  rw [Int.sub_zero]
  induction List.range n.toNat with
  | nil => exact .nil
  | cons k ks ih => exact .cons (.int _) ih
def vListR (f : M Sl) : M Sl := fun en => (vD f en).bind fun d e => match d with
  | .int n => if n.natAbs ≤ LIM then .ok (.own false (rngD 0 n.toNat)) e else .bad
  | _ => .bad
theorem ve_listR (hc : X.calm = true) (hg : Gl X "list") (hm : X.mg "list" = none) (hg2 : Gl X "range") (hm2 : X.mg "range" = none) (ha : VE X W a f) (na : starEach [a] X.env = (false, eval a X.env) :: starEach [] X.env := by rfl)
    (nb : starEach [.Call (.Name "range" p2) [a] [] pos2] X.env = (false, eval (.Call (.Name "range" p2) [a] [] pos2) X.env) :: starEach [] X.env := by rfl) : VE X W (.Call (.Name "list" p) [.Call (.Name "range" p2) [a] [] pos2] [] pos) (vListR f) := fun B =>
  peWk (pe_listRg hc hg hm (prg_1 hg2 hm2 (ha.d B) na) nb) fun σ H Q ⟨F, en, S, q⟩ => by
    refine ⟨F, en, S, (Post.bind q).imp fun d en1 F1 H1 S1 s1 q1 v rv => ?_⟩
    cases d with
    | int n =>
      cases rv
      dsimp only at q1
      by_cases hl : n.natAbs ≤ LIM
      · rw [if_pos hl] at q1
        have hl' : n.natAbs ≤ 1000000 := hl
        refine ⟨n, rfl, ⟨by decide, by decide, by omega, by omega, by omega⟩, fun c hc => ?_⟩
        have gr : Gr F1 H1 F1 (upd H1 c (.lst (rgV 0 n))) := Gr.made S1.sub hc
        exact q1 F1 _ (S1.gr gr) (.refl _) _ (S1.res (r := .own false _) ⟨rfl, c, _, rfl, upd_same, S1.sub.free hc, dps_rg n, hc⟩)
      · rw [if_neg hl] at q1
        exact q1.elim
    | _ => exact q1.elim

/-! ### x.extend(e) -/
def rExtR : V → List V → Hp → VK → Prop := fun x vs H Q => ∃ l b xs zs, x = .ref l ∧ vs = [.ref b] ∧ H l = some (.lst xs) ∧ Rd H b (.lst zs) ∧ xs.length + zs.length ≤ sizeLine ∧ Q .non (upd H l (.lst (xs ++ zs)))
theorem mt_extR : MtM X "list.extend" rExtR := by
  intro pins s σ H x vs
  intro v us Q I rx rv h
  obtain ⟨l, b, xs, zs, rfl, rfl, hH, hB, hsize, q⟩ := h
  cases rx
  obtain ⟨u, rfl, ru⟩ := rv.one
  cases ru
  obtain ⟨z, its, n,
                                                                                                                r, hl, e⟩ := I.lstM hH
  obtain ⟨z2, its2, n2, r2, e2⟩ := Inv.rdL I hB
  have hl2 := r2.length
  have both : its.toArray.size + its2.toArray.size ≤ sizeLine := by simp only [List.size_toArray]; omega
  have short : ¬ (!its.toArray.isEmpty && Builtin.List.listTooLong (its.toArray.size + its2.toArray.size)) = true := by rw [notLongL both, Bool.and_false]; exact fun z => Bool.false_ne_true z
  refine call_meets F.slot_list_extend ⟨_, e, rfl⟩ F.entry_list_extend (F.args_list_extend_2 _ _) (AutoSeq1.list_extend_list_list_0 l its.toArray n b its2.toArray n2 short (by simp only [List.size_toArray]; omega) (by omega)) ⟨e, e2, ?_⟩
  exact ⟨.non, _, I.lset (its' := its ++ its2) hH e (by simp) (r.append r2) (by rw [List.length_append]; omega), rfl, q⟩
open PySem.AutoSeq1 in
/-- a list takes in a tuple's items, be the tuple's other fields what they may -/
theorem list_extend_tup (l : Addr) (items : Array Value) (n : Nat) (b : Addr) (items2 : Array Value) (n2 : Nat) (dx : Option Addr) (sx : Array (Option Value)) (hs0 : ¬(!items.isEmpty && Builtin.List.listTooLong (items.size + items2.size)) = true) (hs1 : items.size ≤ sizeLine) (hs2 : items.size + items2.size ≤ sizeLine + 1) :
    Meets (Builtin.«list.extend» ⟨[.ref l, .ref b], []⟩) (fun _ R s => s.heap.get? l = some { cls := .type "list", dict := none, data := .seq items n, slots := #[] } ∧ s.heap.get? b = some { cls := .type "tuple", dict := dx, data := .seq items2 n2, slots := sx } ∧ R (.ok (.ret Value.none)) { s with heap := s.heap.update l (Obj.mapSeq fun x => x ++ items2), toks := s.toks }) :=
  .of_wp fun prog w A R s h =>
                                                                                                                by
    obtain ⟨heap, gens, drawn, toks, sys⟩ := s
    obtain ⟨first, second, rest⟩ := h
    have i0 := idx_int
    have i1 := AutoSeq1.sub_tuple_tuple
    have i2 := AutoSeq1.sub_list_list
    have i3 := AutoSeq1.sub_tuple_list
    have i4 := AutoSeq1.sub_list_tuple
    have room : (items ++ items2).size ≤ sizeLine + 1 := Array.size_append ▸ hs2
    wp_walk using (wpAny_updateSeq first rfl (hz := hs1) (_hz' := room)), wpAny_loadPart' first, wpAny_loadPart' second
    exact ⟨_, rfl, rest⟩
def rExtT (X : Cx) : V → List V → Hp → VK → Prop := fun x vs H Q => ∃ l b xs zs, x = .ref l ∧ vs = [.ref b] ∧ H l = some (.lst xs) ∧ SqT X.K H b zs ∧ xs.length + zs.length ≤ sizeLine ∧ Q .non (upd H l (.lst (xs ++ zs)))
theorem mt_extT : MtM X "list.extend" (rExtT X) := by
  intro pins s σ H x vs
  intro v us Q I rx rv h
  obtain ⟨l, b, xs, zs, rfl, rfl, hH, hB, hsize, q⟩ := h
  cases rx
  obtain ⟨u, rfl, ru⟩ := rv.one
  cases ru
  obtain ⟨z, its, n,
                                                                                                                r, hl, e⟩ := I.lstM hH
  obtain ⟨its2, r2, t2, z2⟩ := I.tuple hB
  have hl2 := r2.length
  have both : its.toArray.size + its2.toArray.size ≤ sizeLine := by simp only [List.size_toArray]; omega
  have short : ¬ (!its.toArray.isEmpty && Builtin.List.listTooLong (its.toArray.size + its2.toArray.size)) = true := by rw [notLongL both, Bool.and_false]; exact fun z => Bool.false_ne_true z
  obtain ⟨o, e2, oc, n2, od⟩ := t2
  obtain ⟨c2, dx, dt, sx⟩ := o
  dsimp only at oc od
  subst oc
  subst od
  refine call_meets F.slot_list_extend ⟨_, e, rfl⟩ F.entry_list_extend (F.args_list_extend_2 _ _) (list_extend_tup l its.toArray n b its2.toArray n2 dx sx short (by simp only [List.size_toArray]; omega) (by omega)) ⟨e, e2, ?_⟩
  exact ⟨.non, _, I.lset (its' := its ++ its2) hH e (by simp) (r.append r2) (by rw [List.length_append]; omega), rfl, q⟩
theorem mt_extRT : MtM X "list.extend" (fun x vs H Q => rExtR x vs H Q ∨ rExtT X x vs H Q) := by
  intro pins s σ H x vs
  intro v us Q I rx rv h
  rcases h with h | h
  · exact mt_extR pins s σ H x vs v us Q I rx rv h
  · exact mt_extT pins s σ H x vs v us Q I rx rv h
def sExt (i : Nat) (f : M Sl) : MS := fun en => ownAt i en fun _ _ => (vD f en).bind fun d e => ownAt i e fun b xs => match d with
  | .list ys => if xs.length + ys.length ≤ LIM then .ok .nx (e.set i (.own b (xs ++ ys))) else .bad
  | .tuple ys => if xs.length + ys.length ≤ LIM then .ok .nx (e.set i (.own b (xs ++ ys))) else .bad
  | _ => .bad
theorem vs_ext {i : Nat} {e : Expr} {x : Str} {apos cpos : Pos} (he : VE X W e f) (hN : X.N[i]? = some x := by rfl) (hv : Vis X.env.scope x := by first | exact Or.inl rfl | exact Or.inr (Or.inl rfl)) (hd : (x == ("__debug__" : Str)) = false := by decide)
    (hcd : (x == ("__classdict__" : Str)) = false := by decide) (hbase : attributeBase (.Name x p) "extend" X.env (eval (.Name x p) X.env) = eval (.Name x p) X.env := by rfl)
    (hfew : ((backTo cpos (starEach [e] X.env)).all (fun x => !x.1) && (backToKw cpos (keywordEach [] X.env)).all (fun x => x.1.isSome) && decide ([e].length + ([] : List Keyword).length + (if ([] : List Keyword).isEmpty then 0 else 1) < 30)) = true := by rfl)
    (hline : (apos.endLine == cpos.line) = true := by rfl) (hst : starEach [e] X.env = (false, eval e X.env) :: starEach [] X.env := by rfl) (hsw : swapsWith (.Call (.Attribute (.Name x p) "extend" apos) [e] [] cpos) none pos.line X.env = pure false := by rfl) :
    VS X W (.Expr (.Call (.Attribute (.Name x p) "extend" apos) [e] [] cpos) pos) (sExt i f) := fun B =>
  psWk (ps_expr (pe_bm PySem.F.plainAttrs_list PySem.F.slot_list_extend PySem.F.type_list_extend mt_extRT (pe_var hN hv hd hcd) (pa_cons (he.d B) pa_nil hst) hbase hfew hline hst) hsw) fun Dn σ H ⟨F, en, S, q⟩ => by
    unfold sExt ownAt at q
    split at q
    · rename_i b0 xs0 h0
      obtain ⟨a0, vs0, e0, l0, _, _⟩ := S.slotL h0
      refine ⟨_, e0, .inl ⟨rfl, vs0, .inl (.inl l0)⟩, F, en, S, (PostS.bind q).imp fun d en1 F1 H1 S1 s1 q1 v rv => ?_⟩
      split at q1
      · rename_i b xs h1
        obtain ⟨a1, vs, e1, l1, r1, len⟩ := S1.slotL h1
        rw [e0] at e1
        cases e1
        dsimp only at q1
        split at q1
        · rename_i ys
          split at q1
          · rename_i hl
            obtain ⟨b1, us, rfl, h2, r2⟩ := lst_of rv
            refine .inl ⟨_, b1, vs, us, rfl, rfl, l1, rd_mono S1.sub h2, by rw [len, dps_len r2]; exact lim_line hl, ?_⟩
            exact q1 σ F1 _ (S1.change h1 e0 l1 (dps_app r1 r2)) (.refl _)
          · exact q1.elim
        · rename_i ys
          split at q1
          · rename_i hl
            obtain ⟨b1, us, rfl, h2, r2⟩ := tup_of rv
            refine .inr ⟨_, b1, vs, us, rfl, rfl, l1, sqT_mono S1.sub h2, by rw [len, dps_len r2]; exact lim_line hl, ?_⟩
            exact q1 σ F1 _ (S1.change h1 e0 l1 (dps_app r1 r2)) (.refl _)
          · exact q1.elim
        · exact q1.elim
      · exact q1.elim
    · exact q.elim
end
end Mv

namespace Sh
open PySem Mv
/-! ### common -/
/-! ### reduced -/
/-! ### added -/
/-! ### less -/
/-! ### times -/
/-! ### compared -/
/-! ### greatest_of -/
/-! ### is_small -/
/-! ### closes -/
/-! ### heaps_of -/
/-! ### closing -/
/-! ### reach_of -/
/-! ### way_to -/
/-! ### _law_bag -/
def g__law_bag (n : Nat) : MS := sRet (vLst (vCons (vC (.int 0)) (vCons (vC (.int 1234567891)) (vCons (vC (.int 0)) (vCons (vLc (vItems (vSl (vVar 0) (oNone) (oSome (vC (.int 63))))) (pNm 1) (bYes) (vCb dAbs (vCons (vVar 1) (vNil))) [1]) (vNil))))))
def m__law_bag : List D → Option Out := runM 1 2 g__law_bag (fun _ => 0)
/-! ### _law_take -/
def g__law_take (n : Nat) : MS := sSeq (sIf (vB (vOp dEq (vIxv 0 (vC (.int 0))) (vC (.int 0)))) (sSeq (sSet 2 (vOp dIx (vOp dAdd (vSl (vIxv 0 (vC (.int 3))) (oSome (vIxv 0 (vC (.int 2)))) (oNone)) (vLst (vCons (vC (.int 0)) (vNil)))) (vC (.int 0)))) (sSeq (sAugS 0 (fun i j => i + j) (vC (.int 2)) (vC (.int 1))) (sSeq (sIf (vB (vOp (dCmp fun i j => decide (j ≤ i)) (vVar 2) (vOp dPow (vC (.int 10)) (vC (.int 18))))) (sStore 0 (vC (.int 0)) (vVar 2)) (sNil)) (sSeq (sSet 3 (vOp dAdd (vOp dAdd (vOp dMul (vIxv 0 (vC (.int 1))) (vC (.int 48271))) (vOp dMod (vCb dInt (vCons (vVar 2) (vNil))) (vC (.int 2147483647)))) (vOp dMul (vC (.int 7919)) (vIxv 0 (vC (.int 2)))))) (sStore 0 (vC (.int 1)) (vOp dMod (vCb dInt (vCons (vVar 3) (vNil))) (vC (.int 2147483647)))))))) (sNil)) (sSeq (sIf (vB (vOp (dCmp fun i j => decide (j < i)) (vIxv 0 (vC (.int 0))) (vC (.int 0)))) (sSeq (sSet 4 (vOp dMod (vCb dInt (vCons (vIxv 0 (vC (.int 0))) (vNil))) (vVar 1))) (sSeq (sStore 0 (vC (.int 0)) (vOp dFdiv (vCb dInt (vCons (vIxv 0 (vC (.int 0))) (vNil))) (vVar 1))) (sRetV 4))) (sNil)) (sSeq (sSet 5 (vOp dMod (vCb dInt (vCons (vOp dMul (vOp dAdd (vIxv 0 (vC (.int 1))) (vC (.int 1))) (vC (.int 39373))) (vNil))) (vC (.int 1000000007)))) (sSeq (sSet 6 (vOp dMod (vCb dInt (vCons (vOp dMul (vOp dMod (vCb dInt (vCons (vOp dMul (vVar 5) (vVar 5)) (vNil))) (vC (.int 998244353))) (vC (.int 30011))) (vNil))) (vC (.int 998244353)))) (sRet (vOp dMod (vCb dInt (vCons (vOp dFdiv (vVar 6) (vC (.int 7))) (vNil))) (vVar 1))))))
def m__law_take : List D → List D → Option (Out × List D) := runB 2 7 g__law_take (fun _ _ => 0)
/-! ### _law_one -/
def g__law_one (n : Nat) : MS := sRet (vIxv 1 (vCallB 0 m__law_take (vCons (vLenv 1) (vNil))))
def m__law_one : List D → List D → Option (Out × List D) := runB 2 2 g__law_one (fun _ _ => 0)
/-! ### _law_alike -/
def g__law_alike (n : Nat) : MS := sRet (vAnd (vOp dEq (vVar 0) (vVar 1)) (vOp dEq (vCb dRepr (vCons (vVar 0) (vNil))) (vCb dRepr (vCons (vVar 1) (vNil)))))
def m__law_alike : List D → Option Out := runM 2 2 g__law_alike (fun _ => 0)
/-! ### _law_shared -/
def g__law_shared (n : Nat) : MS := sSeq (sPar [0, 1] (lCons (vCb dAbs (vCons (vVar 0) (vNil))) (lCons (vCb dAbs (vCons (vVar 1) (vNil))) (lNil)))) (sSeq (whileL (vB (vOp dNe (vVar 1) (vC (.int 0)))) (sPar [0, 1] (lCons (vVar 1) (lCons (vOp dMod (vCb dInt (vCons (vVar 0) (vNil))) (vVar 1)) (lNil)))) n) (sRetV 0))
def m__law_shared : List D → Option Out := runM 2 2 g__law_shared (fun ds => match ds with | [.int _, .int b] => b.natAbs + 2 | _ => 0)
/-! ### _law_ratio -/
def g__law_ratio (n : Nat) : MS := sSeq (sSet 2 (vOp dMul (vCall m__law_shared (vCons (vVar 0) (vCons (vVar 1) (vNil)))) (vIf (vB (vOp (dCmp fun i j => decide (j < i)) (vVar 1) (vC (.int 0)))) (vC (.int 1)) (vUn dNeg (vC (.int 1)))))) (sRet (vTup (vCons (vOp dFdiv (vCb dInt (vCons (vVar 0) (vNil))) (vVar 2)) (vCons (vOp dFdiv (vCb dInt (vCons (vVar 1) (vNil))) (vVar 2)) (vNil)))))
def m__law_ratio : List D → Option Out := runM 2 3 g__law_ratio (fun _ => 0)
/-! ### _law_plus -/
/-! ### _law_minus -/
/-! ### _law_by -/
/-! ### _law_over -/
/-! ### _law_below -/
/-! ### _law_highest -/
/-! ### _law_integer -/
def g__law_integer (n : Nat) : MS := sRet (vAnd (vUn (isiD "int") (vVar 0)) (vNot (vUn (isiD "bool") (vVar 0))))
def m__law_integer : List D → Option Out := runM 1 1 g__law_integer (fun _ => 0)
/-! ### _law_is_fraction -/
/-! ### _law_is_sizes -/
/-! ### _law_bounds -/
def g__law_bounds (n : Nat) : MS := sSeq (sSet 2 (vCallB 0 m__law_one (vCons (vLst (vCons (vC (.int 1)) (vCons (vC (.int 2)) (vCons (vC (.int 0)) (vCons (vVar 1) (vCons (vCallB 0 m__law_take (vCons (vOp dAdd (vVar 1) (vC (.int 1))) (vNil))) (vNil))))))) (vNil)))) (sSeq (sSet 3 (vCallB 0 m__law_one (vCons (vLst (vCons (vVar 2) (vCons (vOp dAdd (vVar 2) (vC (.int 1))) (vCons (vVar 2) (vCons (vVar 1) (vCons (vOp dMul (vC (.int 2)) (vVar 2)) (vCons (vOp dAdd (vVar 2) (vCallB 0 m__law_take (vCons (vC (.int 4)) (vNil)))) (vNil)))))))) (vNil)))) (sSeq (sPar [2, 3] (lCons (vCb dMin (vCons (vVar 2) (vCons (vVar 1) (vNil)))) (lCons (vCb dMin (vCons (vVar 3) (vCons (vVar 1) (vNil)))) (lNil)))) (sRet (vTup (vCons (vCb dMin (vCons (vVar 2) (vCons (vVar 3) (vNil)))) (vCons (vCb dMax (vCons (vVar 2) (vCons (vVar 3) (vNil)))) (vNil)))))))
def m__law_bounds : List D → List D → Option (Out × List D) := runB 2 4 g__law_bounds (fun _ _ => 0)
/-! ### _law_spans -/
/-! ### _law_heaps_hold -/
/-! ### _law_is_closing -/
/-! ### _law_turned -/
/-! ### _law_scaled -/
/-! ### _law_reach -/
/-! ### _law_is_within -/
/-! ### least_of -/
/-! ### span_left -/
/-! ### spans_left -/
/-! ### _law_mixed -/
def g__law_mixed (n : Nat) : MS := sSeq (sSet 2 (vLst (vNil))) (sSeq (sFor (vItems (vVar 1)) (pNm 3) (sIns 2 (vCons (vCallB 0 m__law_take (vCons (vOp dAdd (vLenv 2) (vC (.int 1))) (vNil))) (vCons (vVar 3) (vNil))))) (sRetV 2))
def m__law_mixed : List D → List D → Option (Out × List D) := runB 2 4 g__law_mixed (fun _ _ => 0)
/-! ### _law_closes -/
/-! ### _law_is_spans -/
/-! ### _law_with_span -/
/-! ### _law_is_left -/
end Sh

namespace Mv
open L2 PySem.Spec PySem PyProof.Rows

/-! ### own lists lent to a def that gives a number, text, truth or None -/
inductive Ag where
  | d (x : D)
  | slot (i : Nat)
def agOf (e : En) : Ag → Option D
  | .d x => some x
  | .slot i => match e[i]? with
    | some (.val x) => some x
    | some (.own _ xs) => some (.list xs)
    | _ => none
def agsOf (e : En) : List Ag → Option (List D)
  | [] => some []
  | a :: as => (agOf e a).bind fun x => (agsOf e as).map (x :: ·)
inductive AgR (K : PySem.W.Frag) (σ : L2.St) (F : Hp) : V → Ag → Prop
  | d {v : V} {x : D} : Dp K F v x → AgR K σ F v (.d x)
  | slot {v : V} {i : Nat} : σ[i]? = some (some v) → AgR K σ F v (.slot i)
inductive AgsR (K : PySem.W.Frag) (σ : L2.St) (F : Hp) : List V → List Ag → Prop
  | nil : AgsR K σ F [] []
  | cons {v : V} {vs : List V} {a : Ag} {as : List Ag} : AgR K σ F v a → AgsR K σ F vs as → AgsR K σ F (v :: vs) (a :: as)
section
variable {K : PySem.W.Frag} {mg : Str → Option Value} {B : Bs} {W : WX} {σ : L2.St} {en : En} {F F' H : Hp}
theorem AgR.mono {v : V} {a : Ag} (s : Same F F') (h : AgR K σ F v a) : AgR K σ F' v a := by
  cases h with
  | d h => exact .d (dp_mono s h)
  | slot h => exact .slot h
open Classical in
/-- all own lists frozen at once, for a callee alone -/
theorem Sim.lend (S : Sim K B σ en F H) : ∃ G, Same F G ∧ Same G H ∧ ∀ (i : Nat) (b : Bool) (xs : List D), en[i]? = some (.own b xs) → ∃ v, σ[i]? = some (some v) ∧ Dp K G v (.list xs) := by
  let G : Hp := fun a => match F a with
    | some o => some o
    | none => if ∃ i, isOwn en i ∧ σ[i]? = some (some (.ref a)) then H a else none
  have s1 : Same F G := fun a o e => by
    show (match F a with | some o => some o | none => _) = some o
    rw [e]
  have s2 : Same G H := fun a o e => by
    have e' : (match F a with | some o => some o | none => if ∃ i, isOwn en i ∧ σ[i]? = some (some (.ref a)) then H a else none) = some o := e
    cases hf : F a with
    | some u =>
      rw [hf] at e'
      cases e'
      exact S.sub _ _ hf
    | none =>
      rw [hf] at e'
      dsimp only at e'
      split at e'
      · exact e'
      · cases e'
  refine ⟨G, s1, s2, fun i b xs h => ?_⟩
  obtain ⟨a, vs, h1, h2, h3, h4, _⟩ := S.own i b xs h
  refine ⟨.ref a, h1, .lst (.inl ?_) (dps_mono s1 h4)⟩
  show (match F a with | some o => some o | none => if ∃ i, isOwn en i ∧ σ[i]? = some (some (.ref a)) then H a else none) = some (.lst vs)
  rw [h3]
  dsimp only
  rw [if_pos ⟨i, isOwn_out h, h1⟩]
  exact h2
theorem Sim.args (S : Sim K B σ en F H) {G : Hp} (s : Same F G) (hG : ∀ (i : Nat) (b : Bool) (xs : List D), en[i]? = some (.own b xs) → ∃ v, σ[i]? = some (some v) ∧ Dp K G v (.list xs)) : ∀ {as : List Ag} {vs : List V} {ds : List D}, AgsR K σ F vs as → agsOf en as = some ds → DpAll K G vs ds
  | [], _, ds, .nil, h => by cases h; exact .nil
  | a :: as, _, ds, .cons r rs, h => by
    obtain ⟨x, h1, h2⟩ := Option.bind_eq_some_iff.mp h
    obtain ⟨xs, h3, rfl⟩ := Option.map_eq_some_iff.mp h2
    refine .cons ?_ (Sim.args S s hG rs h3)
    cases r with
    | d r => cases h1; exact dp_mono s r
    | slot r =>
      rename_i i
      unfold agOf at h1
      dsimp only at h1
      split at h1
      · rename_i y hy
        cases h1
        obtain ⟨v, e1, e2⟩ := S.val i _ hy
        rw [r] at e1
        cases e1
        exact dp_mono s e2
      · rename_i b ys hy
        cases h1
        obtain ⟨v, e1, e2⟩ := hG i b ys hy
        rw [r] at e1
        cases e1
        exact e2
      · cases h1
end
def tAgs (K : PySem.W.Frag) (mg : Str → Option Value) (B : Bs) (W : WX) (g : M (List Ag)) : TA := fun σ H Q => ∃ F en, Sim K B σ en F H ∧ Post K mg B W σ F (fun as _ F' H' => ∀ vs, AgsR K σ F' vs as → Q vs H') (g en)
def VAs (X : Cx) (W : WX) (es : List Expr) (g : M (List Ag)) : Prop := ∀ B, PA X es (tAgs X.K X.mg B W g)
def aNil : M (List Ag) := fun en => .ok [] en
def aCons (f : M Sl) (g : M (List Ag)) : M (List Ag) := fun en => (vD f en).bind fun d e => (g e).bind fun as e2 => .ok (.d d :: as) e2
/-- what may come back -/
def scal0 : D → Bool
  | .none | .bool _ |
                                                                                                                .int _ | .str _ => true
  | _ => false
def lendR (o : Option Out) (e : En) : R Sl := match o with
  | some (.ret (.val d)) => if scal0 d = true then .ok (.val d) e else .bad
  | _ => .bad
def vCallL (m : List D → Option Out) (g : M (List Ag)) : M Sl := fun en => (g en).bind fun as e => match agsOf e as with
  | some ds => lendR (m ds) e
  | none => .bad
section
variable {X : Cx} {W : WX} {e : Expr} {es : List Expr} {x y : Str} {p py pos : Pos} {g : M (List Ag)} {k : Nat} {m : List D → Option Out} {f : M Sl}
theorem vas_nil : VAs X W [] aNil := fun B => paWk pa_nil fun σ H Q ⟨F, en, S, p⟩ => p F H S (.refl _) [] .nil
theorem vas_cons (h : VE X W e f) (hr : VAs X W es g) (hs : starEach (e :: es) X.env = (false, eval e X.env) :: starEach es X.env := by rfl) : VAs X W (e :: es) (aCons f g) := fun B =>
  paWk (pa_cons (h.d B) (hr B) hs) fun σ H Q ⟨F, en, S, p⟩ => by
    refine ⟨F, en, S, (Post.bind p).imp fun d en1 F1 H1 S1 s1 q v rv => ?_⟩
    refine ⟨F1, en1, S1, (Post.bind q).imp fun as en2 F2 H2 S2 s2 q2 vs rvs => ?_⟩
    exact q2 F2 H2 S2 (.refl _) _ (.cons (.d (dp_mono s2 rv)) rvs)
theorem ve_callL (C : FnV X.prog X.w X.K X.mg X.base x k m) (hr : RoomG k X.A) (tk : Takes X W) (ha : VAs X W (e :: es) g)
    (hg : Gl X x := by rfl) (hdb : (x == ("__debug__" : Str)) = false := by decide) (he : starEach (e :: es) X.env = (false, eval e X.env) :: starEach es X.env := by rfl) (hpl : (backTo pos (starEach es X.env)).any (·.1) = false := by rfl) :
    VE X W (.Call (.Name x p) (e :: es) [] pos) (vCallL m g) := fun B => by
  obtain ⟨fa, fd, ps, FO, hm, hk, hb⟩ := C.ex
  refine peWk (pe_callG (E := WE W) FO hr hg hm hk hb (fun σ => passAt tk σ) (ha B) hdb he hpl) fun σ H Q ⟨F, en, S, q⟩ => ?_
  refine ⟨F, en, S, (Post.bind q).imp fun as en1 F1 H1 S1 s1 q1 vs rv => ?_⟩
  cases hd : agsOf en1 as with
  | none => rw [hd] at q1; exact q1.elim
  | some ds =>
    rw [hd] at q1
    dsimp only at q1
    obtain ⟨G, g1, g2, g3⟩ := S1.lend
    have dv := S1.args g1 g3 rv hd
    refine ⟨G, ds, g2, dv, ?_⟩
    cases hmm : m ds with
    | none => rw [hmm] at q1; exact q1.elim
    | some o =>
      rw [hmm] at q1
      cases o with
      | exc c fs => exact q1.elim
      | ret r =>
        cases r with
        | no => exact q1.elim
        | own b xs => exact q1.elim
        | val d =>
          unfold lendR at q1
          dsimp only at q1
          intro F' H' v gr hv
          by_cases hs : scal0 d = true
          · rw [if_pos hs] at q1
            have gr2 : Gr F1 H1 F1 H' := ⟨.refl _, S1.sub.trans gr.hh, gr.hh, fun _ _ z => .inl z⟩
            have hv : Dp X.K F' v d := hv
            refine q1 F1 H' (S1.gr gr2) (.refl _) v ?_
            cases hv with
            | non => exact Dp.non
            | bl b => exact Dp.bl b
            | int i => exact Dp.int i
            | str z => exact Dp.str z
            | lst _ _ => cases hs
            | tup _ _ => cases hs
            | dic _ _ => cases hs
            | dit _ _ _ => cases hs
            | sob _ _ _ _ => cases hs
            | opq _ => cases hs
            | xco _ _ _ => cases hs
          · rw [if_neg hs] at q1
            exact q1.elim
end
end Mv

namespace Mv
open L2 PySem.Spec PySem PyProof.Rows

/-! ### a slice of a name: its own list stays own -/
def vSlv (i : Nat) (l h : M (Option Int)) : M Sl := fun en => match en[i]? with
  | some (.val d) => (l en).bind fun lo e2 => (h e2).bind fun hi e3 => opt (dSl d lo hi) e3
  | some (.own _ _) => (l en).bind fun lo e2 => (h e2).bind fun hi e3 => ownE i e3 fun _ xs => opt (some (.own false (cutD xs lo hi))) e3
  | _ => .bad
section
variable {X : Cx}
theorem ve_slv {W : WX} {i : Nat} {x : Str} {p p2 pos : Pos} {lo hi : Option Expr} {l h : M (Option Int)} (hl : VO X W lo l) (hh : VO X W hi h) (hN : X.N[i]? = some x := by rfl) (hv : Vis X.env.scope x := by first | exact Or.inl rfl | exact Or.inr (Or.inl rfl) | exact Or.inr (Or.inr rfl)) (hd : (x == ("__debug__" : Str)) = false := by decide)
    (hcd : (x == ("__classdict__" : Str)) = false := by decide) : VE X W (.Subscript (.Name x p) (.Slice lo hi none p2) pos) (vSlv i l h) := fun B =>
  peWk (pe_slice (sl_list.or (sl_tupA.or sl_str)) (pe_var hN hv hd hcd) (hl B) (hh B)) fun σ H Q ⟨F, en, S, q⟩ => by
    unfold vSlv at q
    split at q
    · rename_i d hi0
      obtain ⟨v, h1, h2⟩ := S.val i d hi0
      refine ⟨v, h1, F, en, S, (Post.bind q).imp fun a en2 F2 H2 S2 s2 q2 => ?_⟩
      refine ⟨F2, en2, S2, (Post.bind q2).imp fun b en3 F3 H3 S3 s3 q3 => ?_⟩
      exact rd_sl S3.sub (dp_mono (s2.trans s3) h2) (Post.opt S3 q3)
    · rename_i b0 xs0 hi0
      obtain ⟨a0, vs0, e0, _⟩ := S.slotL hi0
      refine ⟨_, e0, F, en, S, (Post.bind q).imp fun a en2 F2 H2 S2 s2 q2 => ?_⟩
      refine ⟨F2, en2, S2, (Post.bind q2).imp fun b en3 F3 H3 S3 s3 q3 => ?_⟩
      unfold ownE at q3
      split at q3
      · rename_i b1 xs h1
        obtain ⟨a1, vs, e1, l1, r1, _⟩ := S3.slotL h1
        rw [e0] at e1
        cases e1
        exact .inl ⟨a0, vs, rfl, .inl (.inl l1), (Post.opt S3 q3).lst S3.sub (dps_cut r1 _ _)⟩
      · exact q3.elim
    · exact q.elim
end
end Mv

namespace Sh
open PySem Mv
/-! ### boxes_to -/
/-! ### input_at -/
/-! ### spans_at -/
/-! ### next_range -/
/-! ### follows -/
/-! ### _law_sizes -/
/-! ### _law_some_bound -/
/-! ### _law_some_span -/
/-! ### _law_net -/
/-! ### _law_boxes_to -/
/-! ### _law_inputs -/
/-! ### _law_reach -/
/-! ### _law_net_spans -/
/-! ### _law_next -/
/-! ### _law_within -/
/-! ### _law_follow -/
/-! ### _law_mean -/
/-! ### _law_beyond -/
end Sh

namespace Mv
open L2 PySem.Spec PySem PyProof.Rows

/-! ### dicts that are only told of: {} and {key: a constant} -/
def vDic0 : M Sl := fun en => .ok (.val (.dict [])) en
def vDic1 (k : Key) (d : D) : M Sl := fun en => .ok (.val (.dict [(keyD k, d)])) en
section
variable {X : Cx} {W : WX}
theorem ve_dic0 {pos : Pos} : VE X W (.Dict [] [] pos) vDic0 := fun B => peWk pe_dnewK fun σ H Q ⟨F, en, S, q⟩ a ha => by
  have g := Gr.laid (o := HO.dK []) S.sub ha
  exact q _ _ (S.gr g) g.ff (.ref a) (.dic (.inl upd_same) .nil)
theorem ve_dic1 {pos : Pos} {ke ve : Expr} {k : Key} {v : V} {d : D} (hk : PE X ke (tC (kV k))) (hv : PE X ve (tC v)) (dv : ∀ F, Dp X.K F v d) : VE X W (.Dict [some ke] [ve] pos) (vDic1 k d) := fun B =>
  peWk (pe_disp (pps_cons hk hv pps_nil) rfl rfl (fun h => by cases h) (by show 1 ≤ 15; decide)) fun σ H Q ⟨F, en, S, q⟩ a ha => by
    refine ⟨upd_same, [(k, v)], rfl, by show 1 ≤ 15; decide, ?_⟩
    have e : mergeK [] [(k, v)] = [(k, v)] := rfl
    rw [e, upd_upd]
    have g := Gr.laid (o := HO.dK [(k, v)]) S.sub ha
    exact q _ _ (S.gr g) g.ff (.ref a) (.dic (.inl upd_same) (.cons (dv _) .nil))
end
end Mv

/-! ### t[::-1], xs[::-1] -/
namespace HT
open PySem PySem.W
                                                                                                              PySem.Calls PyProof.Rows PyProof.V PySem.Spec
section
variable {prog : Program} {w : World} {A :
                                                                                                              Around} {E : Value → Shared → Prop} {s : Shared}
theorem sliceApplied_rev {sl : Addr} {vl vu vs : Value} {n : Nat} {Q : Int × Int × Nat → Shared → Prop} (hs : s.heap.IsSliceOf sl vl vu vs) (pl : IsPart vl none) (pu : IsPart vu none) (ps : IsPart vs (some (-1)))
    (h : Q ((n : Int) - 1, -1, n) s) : wpAny (model prog w) A (Builtin.Slice.sliceApplied (.ref sl) (pure (n : Int))) Q E s := by
  obtain ⟨os, hos,
                                                                                                                hcs, hds⟩ := id hs
  unfold Builtin.Slice.sliceApplied
                                                                                                                Builtin.Slice.sliceFields
  refine wpAny_bind (wpAny_bind (wpAny_field hos hds (x := vl) rfl (wpAny_bind (wpAny_field hos hds (x := vu) rfl (wpAny_bind (wpAny_field hos hds (x := vs) rfl (wpAny_pure ?_)))))))
  refine wpAny_bind (slicePart_ ps ?_)
  show wpAny _ _ (if ((-1 : Int) == 0) = true then _ else _) _ _ s
  rw [if_neg (by decide)]
  refine wpAny_bind (slicePart_ pl (wpAny_bind
                                                                                                                (slicePart_ pu (wpAny_bind (wpAny_pure ?_)))))
  show wpAny _ _ (match Builtin.Slice.sliceAdjust none none (-1) (n : Int) with | (lo, hi) => pure (lo, (-1 : Int), Builtin.Slice.slicePlaces lo hi (-1))) _ _ s
  have e1 : Builtin.Slice.sliceAdjust none none (-1) (n : Int) = ((n : Int) - 1, -1) := by
    unfold
                                                                                                                  Builtin.Slice.sliceAdjust
    simp
  rw [e1]
  have e2 : Builtin.Slice.slicePlaces ((n : Int) - 1) (-1) (-1) = n := by
    unfold
                                                                                                                  Builtin.Slice.slicePlaces
    have h1 : ¬ (-1 : Int) > 0 := by omega
    simp only [h1, if_false]
    have e3 : -(-1 : Int) = 1 := rfl
    simp only [e3, Int.ediv_one]
    split <;> omega
  show wpAny _ _ (pure ((n : Int) - 1, (-1 : Int), Builtin.Slice.slicePlaces ((n : Int) - 1) (-1) (-1))) _ _ s
  rw [e2]
  exact wpAny_pure h
theorem pick_rev (xs : Array Value) : ((List.range xs.size).filterMap fun (m : Nat) => xs[(((xs.size : Int) - 1) + (m : Int) * (-1)).toNat]?).toArray = xs.toList.reverse.toArray := by
  have h : ((List.range xs.size).map fun k => xs.size - 1 - k).filterMap (xs[·]?) = xs.toList.reverse := by
    rw [krv_range, List.filterMap_reverse, krv_all]
  rw [List.filterMap_map] at h
  rw [← h]
  have key : ∀ l : List Nat, (∀ k ∈ l, k < xs.size) → l.filterMap (fun (m : Nat) => xs[(((xs.size : Int) - 1) + (m : Int) * (-1)).toNat]?) = l.filterMap ((fun x => xs[x]?) ∘ fun k => xs.size - 1 - k) := by
    intro l
    induction l with
    | nil => exact fun _ => rfl
    | cons k l ih =>
      intro hl
      have h1 := hl k List.mem_cons_self
      have : (((xs.size : Int) - 1) + (k : Int) * (-1)).toNat = xs.size - 1 - k := by omega
      simp only [List.filterMap_cons, Function.comp, this]
      rw [ih fun z hz => hl z (List.mem_cons_of_mem _ hz)]
  rw [key _ fun k hk => List.mem_range.mp hk]
theorem getItem_tuple_rev {t sl : Addr} {items : Array Value} {vl vu vs : Value} {Q : Value → Shared → Prop} (ht : IsTup s.heap t items) (hs : s.heap.IsSliceOf sl vl vu vs) (pl : IsPart vl none) (pu : IsPart vu none) (ps : IsPart vs (some (-1)))
    (h : Q (.ref s.heap.objs.size) { s with heap := s.heap.push { cls := .type "tuple", data := .seq items.toList.reverse.toArray } })
    (hsz : items.size ≤ sizeLine) : wpAny (model prog w) A
                                                                                                                  (getItem (.ref t) (.ref sl)) Q E s := by
  have htake : sizeOk (.seq items.toList.reverse.toArray) := by
    show items.toList.reverse.toArray.size ≤ sizeLine
    rw [List.size_toArray, List.length_reverse, Array.length_toList]
    exact hsz
  obtain ⟨os, hos,
                                                                                                                hcs, hds⟩ := id hs
  have hTs : s.TypeIs
                                                                                                                (.ref sl) "slice" := ⟨os, hos, hcs⟩
  unfold getItem
  try with_reducible
                                                                                                                refine wpAny_holding ?_
  first | refine wpAny_bind
                                                                                                                (wpAny_pure ?_) | skip
  refine wpAny_bind
                                                                                                                (wpAny_sequenceKey ht.typeIs (by decide) ?_)
  refine wpAny_bind (wpAny_callSpecial?_slot (name :=
                                                                                                                Str.ofString "__getitem__") ht.typeIs PyProof.Rows.slot_tuple_getitem
    (wpAny_call_entry PyProof.Rows.slot_tuple_getitem ht.typeIs entry_tuple_getitem ?_
                                                                                                                  (args_tuple_getitem _ _)))
  show wpAny _ _ (Builtin.Tuple.tupleItemsOf
                                                                                                                (.ref t) >>= _) _ _ s
  refine wpAny_bind
                                                                                                                (tupleItemsOf_ ht ?_)
  refine wpAny_bind
                                                                                                                (wpAny_typeOf hTs ?_)
  rw [if_pos (by decide)]
  refine wpAny_bind (sliceApplied_rev hs pl pu ps ?_)
  have hno : ¬ ((((items.size : Int) - 1) == 0 && (-1 : Int) == 1 && items.size == items.size) = true) := by
    intro q
    rw [Bool.and_eq_true,
                                                                                                                  Bool.and_eq_true] at q
    have q2 := q.1.2
    revert q2
    decide
  show wpAny _ _ (if (((items.size : Int) - 1) == 0 && (-1 : Int) == 1 && items.size == items.size) = true then _ else _) _ _ s
  rw [if_neg hno, pick_rev]
  first
    | exact wpAny_bind (m := Builtin.Tuple.tupleExact _)
                                                                                                                  (wpAny_newObj_type (wpAny_pure ⟨_, rfl, wpAny_pure h⟩) htake)
    | exact wpAny_bind (m := Builtin.Tuple.tupleExact _) (wpAny_newObj_type
                                                                                                                  (wpAny_bind (wpAny_pure (wpAny_pure ⟨_, rfl, wpAny_pure h⟩))) htake)
    | exact wpAny_bind (wpAny_bind (m := Builtin.Tuple.tupleExact _)
                                                                                                                  (wpAny_newObj_type (wpAny_pure (wpAny_pure ⟨_, rfl, wpAny_pure h⟩)) htake))
    | exact wpAny_bind (wpAny_bind (m := Builtin.Tuple.tupleExact _)
                                                                                                                  (wpAny_newObj_type (wpAny_pure ⟨_, rfl, wpAny_pure h⟩) htake))
end
end HT
namespace Mv
open L2 PySem.Spec PySem PyProof.Rows
def tRev (K : PySem.W.Frag) (te : TE) : TE := fun σ H Q => te σ H fun x H1 => (∃ a xs, x = .ref a ∧ SqL K H1 a xs ∧ ∀ p, H1 p = none → Q (.ref p) (upd H1 p (.lst xs.reverse))) ∨
  (∃ a xs, x = .ref a ∧ SqT K H1 a xs ∧ ∀ p, H1 p = none → Q (.ref p) (upd H1 p (.tup xs.reverse)))
section
variable {X : Cx}
theorem pe_rev {e : Expr} {te : TE} {k : Nat} {p1 p2 p3 pos : Pos} (he : PE X e te) : PE X (.Subscript e (.Slice none none (some (.UnaryOp .USub (.Constant (.int 1) k p1) p2)) p3) pos) (tRev X.K te) := by
  refine ⟨fun pins s σ H Q I h =>
                                                                                                                ?_⟩
  refine Subscript_ (thn
                                                                                                                (he.run pins s σ H _ I h) fun v s1 ⟨x, H1, I1, r1, q1⟩ => ?_)
  have hst : PO X (some (.UnaryOp .USub (.Constant (.int 1) k p1) p2)) (tPart
                                                                                                                (tUn (rU fun i => .int (-i)) (tC (.int 1)))) := po_some (pe_un un_neg pe_int)
  refine wpAny_Slice (thn (po_none.run pins s1 σ H1 (fun o H2 => o = none ∧
                                                                                                                H2 = H1) I1 ⟨rfl, rfl⟩) fun vl s2 ⟨l, H2, I2, pl, el, e2⟩ => ?_)
  subst el e2
  refine thn (po_none.run pins s2 σ H2 (fun o H3 => o = none ∧
                                                                                                                H3 = H2) I2 ⟨rfl, rfl⟩) fun vu s3 ⟨u, H3, I3, pu, eu, e3⟩ => ?_
  subst eu e3
  refine thn (hst.run pins s3 σ H3 (fun o H4 => o = some (-1) ∧ H4 = H3) I3 ⟨1,
                                                                                                                rfl, -1, rfl, rfl, rfl⟩) fun vs s4 ⟨o, H4, I4, ps, eo, e4⟩ => ?_
  subst eo e4
  have I5 : Inv X pins σ H4 { s4 with heap := s4.heap.push { cls := .type "slice", data :=
                                                                                                                .fields #[vl, vu, vs] } } := I4.kept (t' := s4.toks) fun b ob q => Heap.get?_push_of_some _ q
  rcases q1 with ⟨a, xs, ex, hx, q⟩ | ⟨a, xs, ex, hx, q⟩
  · subst ex
    cases r1
    obtain ⟨its, r,
                                                                                                                  ht, hz⟩ := I5.list hx
    have hlen := r.length
    show wpAny (model X.prog X.w) X.A (subscriptTail e (.Slice none none (some (.UnaryOp .USub (.Constant (.int 1) k p1) p2)) p3) (.ref a)
                                                                                                                  (.ref s4.heap.objs.size)) (EP X pins σ Q) X.xe { s4 with heap := s4.heap.push { cls := .type "slice", data := .fields #[vl, vu, vs] } }
    refine tail_any (ops := [.ref a, .ref s4.heap.objs.size]) ht.isList.typeIs
                                                                                                                  (PySem.slot_list_getitem.lookup) ?_ (by with_unfolding_all rfl)
    refine wpAny_getItem_list_slice ht.isList (Heap.IsSliceOf.new _ vl vu vs) pl pu ps
                                                                                                                  (by decide) ?_ (by rw [List.size_toArray]; omega)
    rw [PySem.W.krv_pick]
    refine ⟨.ref _, _, I5.laid (t' := s4.toks) (o := .lst xs.reverse) (fun b ob q =>
                                                                                                                  Heap.get?_push_of_some _ q) (Nat.le_refl _) ?_, rfl, q _ (I5.hok.fresh (Nat.le_refl _))⟩
    exact ⟨by rw [List.length_reverse]; exact hz,
                                                                                                                  _, 0, r.reverse, Heap.get?_push_size _ rfl⟩
  · subst ex
    cases r1
    obtain ⟨its, r, ht, hz⟩ := I5.tuple hx
    have hlen := r.length
    show wpAny (model X.prog X.w) X.A (subscriptTail e (.Slice none none (some (.UnaryOp .USub (.Constant (.int 1) k p1) p2)) p3) (.ref a)
                                                                                                                  (.ref s4.heap.objs.size)) (EP X pins σ Q) X.xe { s4 with heap := s4.heap.push { cls := .type "slice", data := .fields #[vl, vu, vs] } }
    refine tail_any (ops := [.ref a, .ref s4.heap.objs.size]) ht.typeIs PyProof.Rows.slot_tuple_getitem.lookup ?_ (by with_unfolding_all rfl)
    refine HT.getItem_tuple_rev ht (Heap.IsSliceOf.new _ vl vu vs) pl pu ps ?_ (by rw [List.size_toArray]; omega)
    refine ⟨.ref _, _, I5.laid (t' := s4.toks) (o := .tup xs.reverse) (fun b ob q => Heap.get?_push_of_some _ q) (Nat.le_refl _) ?_, rfl, q _ (I5.hok.fresh (Nat.le_refl _))⟩
    exact ⟨by rw [List.length_reverse]; exact hz, _, r.reverse, IsTup.new _ _⟩
def dRev : D → Option Sl
  | .list xs => some (.own false xs.reverse)
  | .tuple xs => some (.val (.tuple xs.reverse))
  | _ => none
variable {W : WX}
theorem ve_rev {e : Expr} {f : M Sl} {k : Nat} {p1 p2 p3 pos : Pos} (h : VE X W e f) : VE X W (.Subscript e (.Slice none none (some (.UnaryOp .USub (.Constant (.int 1) k p1) p2)) p3) pos) (vUn dRev f) := fun B =>
  peWk (pe_rev (h.d B)) fun σ H Q ⟨F, en, S, p⟩ => by
    refine ⟨F, en, S, (Post.bind p).imp fun d en1 F1 H1 S1 s1 q v rv => ?_⟩
    have k := Post.opt S1 q
    unfold dRev at k
    split at k
    · obtain ⟨a1, us, rfl, h1, r1⟩ := lst_of rv
      exact .inl ⟨a1, us, rfl, .inl (rd_mono S1.sub h1), k.lst S1.sub (dps_rev r1)⟩
    · obtain ⟨a1, us, rfl, h1, r1⟩ := tup_of rv
      exact .inr ⟨a1, us, rfl, sqT_mono S1.sub h1, k.tup S1.sub (dps_rev r1)⟩
    · exact k.elim
def dBool : List D → Option Sl
  | [.int i] => some (.val (.bool (i != 0)))
  | [.bool b] => some (.val (.bool b))
  | _ => none
def dStr : List D → Option Sl
  | [.int i] => if i.natAbs.log2 < 1920 then some (.val (.str (toString i))) else none
  | [.str x] => some (.val (.str x))
  | _ => none
theorem cv_str : CV X (.type "str") dStr := cv_of (call_str_int.or SkE.call_str_str) fun xs H Q F as s ra k => by
  unfold dStr at k
  split at k
  · rename_i i
    obtain ⟨u, rfl, r⟩ := dps1 ra
    rw [int_of r]
    split at k
    · rename_i hl
      exact .inl ⟨i, rfl, hl, k.val s (.str _)⟩
    · exact k.elim
  · rename_i b
    obtain ⟨u, rfl, r⟩ := dps1 ra
    rw [str_of r]
    exact .inr ⟨b, rfl, k.val s (.str _)⟩
  · exact k.elim
end
end Mv
namespace Mv
open L2 PySem.Spec PySem PyProof.Rows
/-! ### a def that calls itself: the promise by depths; at depth 0 it promises nothing -/
section
variable {P : Program} {w : World} {K : PySem.W.Frag} {mg : Str → Option Value} {base : Heap} {x : Str} {k : Nat} {f : Addr} {fd : FuncData} {ps : List Str} {qual : Str} {st : Stmt}
theorem fnb_zero (F : Fun K x qual st f fd) (hm : mg x = some (.ref f)) (b : Binds K fd ps []) : FnB P w K mg base x k (fun _ _ => none) :=
  ⟨f, fd, ps, ⟨fun _ _ _ _ h => let ⟨_, _, _, _, _, _, _, _, _, _, _, _, z⟩ := h; z.elim, fun _ _ _ _ _ _ _ _ _ _ _ _ _ h => let ⟨_, _, _, _, _, _, _, _, _, _, _, _, z⟩ := h; z.elim⟩, hm, F.kp, b⟩
end
end Mv

namespace Mv
open L2 PySem.Spec PySem PyProof.Rows

/-! ### a comprehension over a name's own list: it stays own -/
def lcvR (i : Nat) (xs : List D) : R Sl → R Sl
  | .ok r e => match e[i]? with
    | some .no => .ok r (e.set i (.own false xs))
    | _ => .bad
  | _ => .bad
def vLcv (i : Nat) (mode : List D → List D) (pat : D → En → Option En) (tt : M Bool) (el : M Sl) (vs : List Nat) : M Sl := fun en => match en[i]? with
  | some (.own false xs) => lcvR i xs (vLc (fun e => .ok (mode xs) e) pat tt el vs (en.set i .no))
  | some (.val d) => match seqOf d with
    | some xs => vLc (fun e => .ok (mode xs) e) pat tt el vs en
    | none => .bad
  | _ => .bad
section
variable {K : PySem.W.Frag} {mg : Str → Option Value} {B : Bs} {σ : L2.St} {en : En} {F F' H H' : Hp}
end
theorem Sim.base {K : PySem.W.Frag} {B : Bs} {σ σ' : L2.St} {en en' : En} {F F' H H' : Hp} (S : Sim K B σ en F H) (S' : Sim K ⟨F, B.Kp, B.Z, B.io⟩ σ' en' F' H') : Sim K B σ' en' F' H' :=
  ⟨S'.len, S'.sub, S.f0.trans S'.f0, fun c o e => (S'.new c o e).elim (fun z => S.new c o z) .inr, S'.kp, S'.z, S'.val, S'.own, S'.apart⟩
section
variable {X : Cx} {W : WX} {elt tg : Expr} {ifs : List Expr} {scope : Scope} {pos p0 p1 : Pos} {x : Str} {i : Nat} {pat : D → En → Option En} {tt : M Bool} {el : M Sl}
end
end Mv

namespace Sh
open PySem Mv
/-! ### is_integer -/
def g_is_integer (n : Nat) : MS := sRet (vAnd (vUn (isiD "int") (vVar 0)) (vNot (vUn (isiD "bool") (vVar 0))))
def m_is_integer : List D → Option Out := runM 1 1 g_is_integer (fun _ => 0)
/-! ### is_tuple_of -/
def g_is_tuple_of (n : Nat) : MS := sRet (vAnd (vUn (isiD "tuple") (vVar 0)) (vOp dEq (vLenv 0) (vVar 1)))
def m_is_tuple_of : List D → Option Out := runM 2 2 g_is_tuple_of (fun _ => 0)
/-! ### is_fraction -/
/-! ### is_sizes -/
/-! ### is_course -/
/-! ### _law_is_course -/
/-! ### _law_gone -/
/-! ### _law_near -/
/-! ### is_below -/
/-! ### are_heaps -/
/-! ### is_within -/
/-! ### is_closing -/
/-! ### _law_odd -/
def g__law_odd (n : Nat) : MS := sSeq (sSet 1 (vLst (vCons (vC .none) (vCons (vC (.bool true)) (vCons (vC (.bool false)) (vCons (vC (.int 0)) (vCons (vC (.int 1)) (vCons (vUn dNeg (vC (.int 1))) (vCons (vC (.int 2)) (vCons (vOp dPow (vC (.int 10)) (vC (.int 39))) (vCons (vC (.str ⟨#[]⟩)) (vCons (vC (.str ⟨#[48]⟩)) (vCons (vC (.str ⟨#[97, 98]⟩)) (vCons (vTup (vNil)) (vCons (vLst (vNil)) (vCons (vDic0) (vCons (vTup (vCons (vC (.int 0)) (vNil))) (vCons (vTup (vCons (vC (.int 1)) (vCons (vC (.int 1)) (vNil)))) (vCons (vTup (vCons (vC (.int 0)) (vCons (vC (.int 1)) (vNil)))) (vCons (vLst (vCons (vC (.int 0)) (vCons (vC (.int 1)) (vNil)))) (vCons (vTup (vCons (vC (.int 1)) (vCons (vC (.int 0)) (vNil)))) (vCons (vTup (vCons (vC (.int 2)) (vCons (vC (.int 4)) (vNil)))) (vNil))))))))))))))))))))))) (sRet (vCallB 0 m__law_one (vCons (vOp dAdd (vVar 1) (vLst (vCons (vTup (vCons (vC (.bool true)) (vCons (vC (.int 1)) (vNil)))) (vCons (vTup (vCons (vC (.int 0)) (vCons (vC (.int 1)) (vCons (vC (.int 1)) (vNil))))) (vCons (vTup (vCons (vTup (vCons (vC (.int 0)) (vCons (vC (.int 1)) (vCons (vC (.int 1)) (vNil))))) (vNil))) (vCons (vTup (vCons (vC (.int 0)) (vCons (vC (.int 0)) (vNil)))) (vCons (vDic1 (.inr ⟨#[97]⟩) (.int 1)) (vCons (vTup (vCons (vTup (vNil)) (vCons (vTup (vCons (vC (.int 0)) (vCons (vC (.int 0)) (vNil)))) (vNil)))) (vCons (vTup (vCons (vC (.int 1)) (vCons (vTup (vNil)) (vNil)))) (vCons (vTup (vCons (vC (.int 0)) (vCons (vTup (vNil)) (vNil)))) (vCons (vTup (vCons (vUn dNeg (vC (.int 1))) (vCons (vTup (vNil)) (vNil)))) (vNil)))))))))))) (vNil))))
def m__law_odd : List D → List D → Option (Out × List D) := runB 1 2 g__law_odd (fun _ _ => 0)
/-! ### _law_bent -/
def g__law_bent (rec : List D → List D → Option (Out × List D)) (n : Nat) : MS := sSeq (sIf (bOr (bNot (vB (vUn (isiD "tuple") (vVar 1)))) (bOr (vB (vOp dEq (vVar 1) (vTup (vNil)))) (vB (vOp dEq (vVar 2) (vC (.int 0)))))) (sSeq (sIf (bAnd (vB (vCall m__law_integer (vCons (vVar 1) (vNil)))) (vB (vOp dEq (vCallB 0 m__law_take (vCons (vC (.int 2)) (vNil))) (vC (.int 0))))) (sRet (vCallB 0 m__law_one (vCons (vLst (vCons (vOp dAdd (vVar 1) (vC (.int 1))) (vCons (vUn dNeg (vVar 1)) (vCons (vOp dSub (vVar 1) (vC (.int 1))) (vCons (vCb dBool (vCons (vVar 1) (vNil))) (vCons (vCb dStr (vCons (vVar 1) (vNil))) (vNil))))))) (vNil)))) (sNil)) (sRet (vCallB 0 m__law_odd (vNil)))) (sNil)) (sSeq (sPar [3, 4] (lCons (vCallB 0 m__law_take (vCons (vC (.int 9)) (vNil))) (lCons (vCallB 0 m__law_take (vCons (vLenv 1) (vNil))) (lNil)))) (sSeq (sIf (vB (vOp dEq (vVar 3) (vC (.int 0)))) (sRet (vCb dList (vCons (vVar 1) (vNil)))) (sNil)) (sSeq (sIf (vB (vOp dEq (vVar 3) (vC (.int 1)))) (sRet (vOp dAdd (vSlv 1 (oNone) (oSome (vVar 4))) (vSlv 1 (oSome (vOp dAdd (vVar 4) (vC (.int 1)))) (oNone)))) (sNil)) (sSeq (sIf (vB (vOp dEq (vVar 3) (vC (.int 2)))) (sRet (vOp dAdd (vOp dAdd (vSlv 1 (oNone) (oSome (vVar 4))) (vTup (vCons (vCallB 0 m__law_odd (vNil)) (vNil)))) (vSlv 1 (oSome (vVar 4)) (oNone)))) (sNil)) (sSeq (sIf (vB (vOp dEq (vVar 3) (vC (.int 3)))) (sRet (vUn dRev (vVar 1))) (sNil)) (sRet (vOp dAdd (vOp dAdd (vSlv 1 (oNone) (oSome (vVar 4))) (vTup (vCons (vCallB 0 rec (vCons (vIxv 1 (vVar 4)) (vCons (vOp dSub (vVar 2) (vC (.int 1))) (vNil)))) (vNil)))) (vSlv 1 (oSome (vOp dAdd (vVar 4) (vC (.int 1)))) (oNone)))))))))
def r__law_bent : Nat → List D → List D → Option (Out × List D)
  | 0 => fun _ _ => none
  | dep + 1 => runB 3 5 (g__law_bent (r__law_bent dep)) (fun _ _ => 0)
/-! ### _law_edge_spans -/
/-! ### _law_can_heap -/
end Sh

/-! ### sorted of values that can be compared: lists and tuples, to any depth -/
namespace Mv
open L2 PySem.Spec PySem PyProof.Rows
section
variable {prog : Program} {w : World} {A :
                                                                                                              Around} {E : Value → Shared → Prop} {s : Shared}
theorem collect_seq {l : Addr} {vs : List Value} {Q : List Value → Shared → Prop} {T : String} {o : Obj} {n : Nat} (hT : T = "list" ∨ T = "tuple") (ho : s.heap.get? l = some o) (hc : o.cls = .type T) (hd : o.data = .seq vs.toArray n)
    (h : Q vs { s with heap := (s.heap.push (seqObj "list" #[] 0)).update s.heap.objs.size (Obj.mapSeq (· ++ vs.toArray)) }) (hsz : vs.length ≤ sizeLine) :
    wpAny (model prog w) A
                                                                                                                  (collect (.ref l)) Q E s := by
  unfold collect
  refine wpAny_bind (wpAny_runValue
                                                                                                                (codeAny_builtin entry_proto_collect' ?_))
  show wpAny _ _ (do again (.builtin "list.__iadd__" ⟨[←
                                                                                                                newList [], .ref l], []⟩)) _ _ s
  refine wpAny_bind (wpAny_newList (wpAny_pure ⟨Code.quiet_builtin _
                                                                                                                (by decide +kernel), codeAny_builtin entry_list_iadd' ?_⟩))
  show wpAny _ _ (Builtin.List.listExtendWith (.ref s.heap.objs.size) (.ref l)
                                                                                                                (.ref s.heap.objs.size)) _ _ { s with heap := s.heap.push (seqObj "list" #[] 0) }
  unfold
                                                                                                                Builtin.List.listExtendWith
  have ho' : (s.heap.push (seqObj "list" #[] 0)).get? l = some o :=
                                                                                                                Heap.get?_push_of_some _ ho
  refine wpAny_bind (wpAny_typeOf (T := T) ⟨o, ho', hc⟩ ?_)
  rw [if_pos (by rcases hT with rfl | rfl <;> simp)]
  refine wpAny_bind
                                                                                                                (listItems_at ho' hd ?_)
  refine wpAny_bind (listItems_at (xs := #[])
                                                                                                                (n := 0) (Heap.get?_push_size _ rfl) rfl ?_)
  rw [if_neg (by simp)]
  refine wpAny_bind (listUpdate_at (xs := #[]) (n := 0) (Heap.get?_push_size _ rfl) rfl ?_ (Nat.zero_le _) (by show
                                                                                                                (#[] ++ vs.toArray).size ≤ sizeLine + 1; simp only [Array.size_append, List.size_toArray, List.length_nil]; omega))
  refine wpAny_pure ?_
  show wpAny
                                                                                                                (model prog w) A (do
      let o ← load s.heap.objs.size
      match o.data with
      | .seq xs _ => pure xs.toList
      | _ => unsupported "internal:collect") Q E { s with heap := (s.heap.push
                                                                                                                    (seqObj "list" #[] 0)).update s.heap.objs.size (Obj.mapSeq (· ++ vs.toArray)) }
  refine wpAny_bind (wpAny_load (get?_update_seq
                                                                                                                (Heap.get?_push_size _ rfl) _) ?_)
  show wpAny _ _ (pure ((#[] :
                                                                                                                Array Value) ++ vs.toArray).toList) Q E _
  rw [show ((#[] :
                                                                                                                Array Value) ++ vs.toArray).toList = vs by simp]
  exact wpAny_pure h
theorem sorted_of_seq {l : Addr} {vs : List Value} {Q : Value → Shared → Prop} {T : String} {o : Obj} {n : Nat} (hT : T = "list" ∨ T = "tuple") (ho : s.heap.get? l = some o) (hc : o.cls = .type T) (hd : o.data = .seq vs.toArray n) (hL : vs.length ≤ sizeLine)
    (body : ∀ E' : Value → Shared → Prop, wpAny (model prog w) A.in1.in1 (Builtin.«list.sort» ⟨[.ref (s.heap.objs.size + 1)], []⟩) (fun f s' => f = .done (.ret .none) ∧ Q (.ref (s.heap.objs.size + 1)) s') E' { s with heap := PySem.W.copyHeap s.heap vs }) :
    wpAny (model prog w) A (call (.builtin "sorted") [.ref l] []) Q E s := by
  refine call_function_entry_kw kind_sorted plain_sorted entry_sorted (args_sorted1 _) ?_
  unfold Builtin.«sorted»
  refine wpAny_bind (m :=
                                                                                                                checkCount "sorted" 1 1 _) (wpAny_pure ?_)
  refine wpAny_bind (collect_seq hT ho hc hd ?_ hL)
  refine wpAny_bind
                                                                                                                (wpAny_newList ?_ hL)
  have hsz : ((s.heap.push (seqObj "list" #[] 0)).update s.heap.objs.size
                                                                                                                (Obj.mapSeq (· ++ vs.toArray))).objs.size = s.heap.objs.size + 1 := by
    rw [Heap.size_update,
                                                                                                                  size_push']
  show wpAny _ _ _ _ _ { s with heap := PySem.W.copyHeap s.heap vs }
  rw [hsz]
  refine wpAny_bind (wpAny_holding (wpAny_call_entry_kw slot_list_sort ⟨_, PySem.W.copyHeap_at s.heap vs, rfl⟩ entry_list_sort ?body (args_list_sort _)))
  case body =>
    show wpAny (model prog w) A.in1.in1 (Builtin.«list.sort» ⟨[.ref (s.heap.objs.size + 1)], []⟩) _ _ _
    refine wpAny_mono (body _)
                                                                                                                  (fun f s' hf => ?_) fun _ _ e => e
    obtain ⟨rfl, hq⟩ := hf
    exact ⟨_, rfl,
                                                                                                                  wpAny_pure ⟨_, rfl, hq⟩⟩

/-- sorted(xs) of a list or tuple of alike data -/
theorem sorted_seq_data {l : Addr} {vs : List Value} {bs : List D} {R : Value → D → Prop} {Q : Value → Shared → Prop} {T : String} {o : Obj} {n : Nat} (hT : T = "list" ∨ T = "tuple") (ho : s.heap.get? l = some o) (hc : o.cls = .type T) (hd : o.data = .seq vs.toArray n)
    (e : PySem.W.EachIs R vs bs) (er : PySem.W.EachIs (fun v b => ∃ as, Reads s.heap v b as) vs bs) (hal : PySem.W.AllAlike bs) (hk : PySem.W.Sortable bs) (hL : bs.length ≤ sizeLine)
    (hu : ∀ b, b ∈ bs → A.units + 2 + b.depth < cLine) (h : ∀ out, out.length = bs.length → PySem.W.EachIs R out (bs.mergeSort (PySem.W.dataLe false id)) → Q (.ref (s.heap.objs.size + 1)) { s with heap := sortedAll s.heap vs (List.toArray out) }) :
    wpAny (model prog w) A (call
                                                                                                                  (.builtin "sorted") [.ref l]) Q E s := by
  have er' : PySem.W.EachIs (fun v b => ∃ as, Reads (PySem.W.sortingHeap (PySem.W.copyHeap s.heap vs) (s.heap.objs.size + 1) vs) v (id b) as) vs bs := er.mono fun _ _ ⟨as, r⟩ => ⟨as, PyProof.Rows.Reads.keeps (fun _ _ => PySem.W.sorting_copy_old) r⟩
  have hL' : vs.length ≤ sizeLine := by rw [e.length]; exact hL
  refine sorted_of_seq hT ho hc hd hL' fun _ => PySem.W.list_sort_vals (κ := PySem.W.dataKind (PySem.W.sortingHeap (PySem.W.copyHeap s.heap vs) (s.heap.objs.size + 1) vs) bs) (s := { s with heap := PySem.W.copyHeap s.heap vs }) (PySem.W.copyHeap_at s.heap vs) ?_ hL' ⟨rfl, ?_⟩
  · exact PySem.W.SortsAt.data (s := { s with heap := PySem.W.sortingHeap (PySem.W.copyHeap s.heap vs) (s.heap.objs.size + 1) vs }) er' hal hk hu
  · have er2 := er'
    exact h _ (by rw [PySem.W.sortVals_length false rfl]; exact e.length) (by
      have q := PySem.W.sortVals_data (enc := id) false e er2 (by rw [List.map_id]; exact hal)
      rw [List.map_id] at q
      exact q)
end
mutual
theorem alike_noDict : ∀ (d : D), PySem.W.alike d d = true → d.hasDict = false
  | .none, _ => by simp only [PyData.hasDict]
  | .bool _, _ => by simp only [PyData.hasDict]
  | .int _, _ => by simp only [PyData.hasDict]
  | .str _, _ => by simp only [PyData.hasDict]
  | .list xs, h => by
    simp only [PyData.hasDict]
    exact alikes_noDict xs (by simpa only [PySem.W.alike] using h)
  | .tuple xs, h => by
    simp only [PyData.hasDict]
    exact alikes_noDict xs (by simpa only [PySem.W.alike] using h)
  | .dict _, h => by simp [PySem.W.alike] at h
theorem alikes_noDict : ∀ (ds : List D), PySem.W.alikeAll ds ds = true → PyData.hasDictAll ds = false
  | [], _ => by simp only [PyData.hasDictAll]
  | d :: ds, h => by
    obtain ⟨h1, h2⟩ := PySem.W.alike_all_cons h
    simp only [PyData.hasDictAll, alike_noDict d h1, alikes_noDict ds h2, Bool.or_self]
end
/-- what sorted is served of -/
def tupB : D → Bool
  | .tuple (_ :: _) => true
  | _ => false
def notTupB : D → Bool
  | .tuple _ => false
  | .none => false
  | _ => true
def sortB (ds : List D) : Bool := (ds.all fun d => ds.all fun d' => PySem.W.alike d d') && (ds.all tupB || ds.all notTupB) && ds.all fun d => decide (d.depth ≤ 100)
theorem sortB_ok {ds : List D} (h : sortB ds = true) : PySem.W.AllAlike ds ∧ PySem.W.Sortable ds ∧ ∀ d ∈ ds, d.depth ≤ 100 := by
  unfold sortB at h
  simp only [Bool.and_eq_true, Bool.or_eq_true, List.all_eq_true, decide_eq_true_eq] at h
  obtain ⟨⟨h1, h2⟩, h3⟩ := h
  refine ⟨fun d hd d' hd' => h1 d hd d' hd', ?_, h3⟩
  rcases h2 with h2 | h2
  · refine .inl fun d hd => ?_
    have q := h2 d hd
    cases d with
    | tuple xs =>
      cases xs with
      | nil => cases q
      | cons x r =>
                                                                                                                    exact ⟨x, r, rfl⟩
    | _ => cases q
  · refine .inr fun d hd => ?_
    have q := h2 d hd
    refine ⟨fun e => ?_, fun xs e => ?_⟩
    · rw [e] at q; cases q
    · rw [e] at q; cases q
/-- the sorted list -/
def sortD (ds : List D) : List D := ds.mergeSort (PySem.W.dataLe false id)
section
variable {X : Cx} {pins : List
                                                                                                              (Addr × Obj)} {σ : L2.St} {H : Hp} {s : Shared}
theorem each_dps (I : Inv X pins σ H s) {F : Hp} (s0 : Same F H) : ∀ {xs : List V} {vs : List Value} {ds : List D}, DpAll X.K F xs ds → Vals xs vs → PyData.hasDictAll ds = false → PySem.W.EachIs (fun v d => ∃ x, RelV x v ∧ Dp X.K F x d) vs ds ∧ PySem.W.EachIs (fun v b => ∃ as, Reads s.heap v b as) vs ds
  | _, _, _, .nil, .nil, _ => ⟨.nil, .nil⟩
  | _, _, _, .cons h hs, .cons r rs, n => by
    simp only [PyData.hasDictAll, Bool.or_eq_false_iff] at n
    obtain ⟨a, b⟩ := each_dps I s0 hs rs n.2
    exact ⟨.cons ⟨_, r, h⟩ a, .cons (Dp.reads I _ _ _ ((dp_mono s0 h).l2 n.1) r) b⟩
theorem dps_each {K : PySem.W.Frag} : ∀ {vs : List Value} {ds : List D}, PySem.W.EachIs (fun v d => ∃ x, RelV x v ∧ Dp K H x d) vs ds → ∃ xs, Vals xs vs ∧ DpAll K H xs ds
  | _, _, .nil => ⟨[], .nil, .nil⟩
  | _, _, .cons ⟨x, r, h⟩ t => by
    obtain ⟨xs, a, b⟩ := dps_each t
    exact ⟨x :: xs, .cons r a, .cons h b⟩
end
section
variable {X : Cx}
def rSortD (X : Cx) : List V → Hp → VK → Prop := fun xs H Q => ∃ F a us ds, Same F H ∧ xs = [.ref a] ∧ (SqL X.K H a us ∨ SqT X.K H a us) ∧ DpAll X.K F us ds ∧ sortB ds = true ∧ ∀ p ys, H p = none → DpAll X.K F ys (sortD ds) → Q (.ref p) (upd H p (.lst ys))
theorem call_sortD (hr : RoomG 0 X.A) : CallR X (.builtin "sorted") (rSortD X) := by
  intro pins s σ H xs
  intro us Q I r h
  obtain ⟨F, a, vs, ds, s0, rfl, hq, rd, ok, q⟩ := h
  obtain ⟨al, so, dp⟩ := sortB_ok ok
  rw [Vals.ref1 r]
  have hun := hr.r.un
  have nd : PyData.hasDictAll ds = false := alikes_noDict ds (by
    have : ∀ (l : List D), (∀ d ∈ l, d ∈ ds) → PySem.W.alikeAll l l = true := by
      intro l
      induction l with
      | nil => intro _; simp [PySem.W.alikeAll]
      | cons d l ih => intro hl; rw [PySem.W.alikeAll, al d (hl d List.mem_cons_self) d (hl d List.mem_cons_self), ih fun x hx => hl x (List.mem_cons_of_mem _ hx)]; rfl
    exact this ds fun _ h => h)
  have fin : ∀ (its : List Value), Vals vs its → vs.length ≤ sizeLine → ∀ (T : String) (o : Obj) (n : Nat), T = "list" ∨ T = "tuple" → s.heap.get? a = some o → o.cls = .type T → o.data = .seq its.toArray n → wpAny (model X.prog X.w) X.A (call (.builtin "sorted") [.ref a]) (EP X pins σ Q) X.xe s := fun its rv hz T o n hT ho hc hd => by
    obtain ⟨e1, e2⟩ := each_dps I s0 rd rv nd
    have len : ds.length ≤ sizeLine := by rw [← e1.length, ← rv.length]; exact hz
    refine sorted_seq_data hT ho hc hd e1 e2 al so len (fun b hb => by have := dp b hb; omega) fun out hl eo => ?_
    obtain ⟨ys, ry, dy⟩ := dps_each eo
    obtain ⟨ep, he'⟩ := sortedAll_at s.heap its out.toArray
    have hlen : ys.length ≤ sizeLine := by rw [ry.length, hl]; exact len
    exact ⟨.ref _, upd H (s.heap.objs.size + 1) (.lst ys), I.laid (t' := s.toks) (fun _ _ => sortedAll_old) (Nat.le_succ _) ⟨hlen, out, ep, ry, he'⟩, rfl, q _ ys (I.hok.fresh (Nat.le_succ _)) dy⟩
  rcases hq with hq | hq
  · obtain ⟨its, rv, pl, hz⟩ := I.list hq
    obtain ⟨o, ho, hc,
                                                                                                                  n, hd⟩ := pl.isList
    exact fin its rv hz "list" o n (.inl rfl) ho hc hd
  · obtain ⟨its, rv, pl, hz⟩ := I.tuple hq
    obtain ⟨o, ho,
                                                                                                                  hc, n, hd⟩ := pl
    exact fin its rv hz "tuple" o n (.inr rfl) ho hc hd
def dSorted : List D → Option Sl
  | [.list ds] => if sortB ds = true then some (.own false (sortD ds)) else none
  | [.tuple ds] => if sortB ds = true then some (.own false (sortD ds)) else none
  | _ => none
theorem cv_sorted (hr : RoomG 0 X.A) : CV X (.builtin "sorted") dSorted := cv_of (call_sortD hr) fun xs H Q F as s ra k => by
  unfold dSorted at k
  split at k
  · obtain ⟨u, rfl, r⟩ := dps1 ra
    obtain ⟨a1, us, rfl, h1, r1⟩ := lst_of r
    split at k
    · rename_i ok
      exact ⟨F, a1, us, _, s, rfl, .inl (.inl (rd_mono s h1)), r1, ok, fun p ys hp ry => Kd.lst s k ry p hp⟩
    · exact k.elim
  · obtain ⟨u, rfl, r⟩ := dps1 ra
    obtain ⟨a1, us, rfl, h1, r1⟩ := tup_of r
    split at k
    · rename_i ok
      exact ⟨F, a1, us, _, s, rfl, .inr (sqT_mono s h1), r1, ok, fun p ys hp ry => Kd.lst s k ry p hp⟩
    · exact k.elim
  · exact k.elim
end
end Mv

namespace Mv
open L2 PySem.Spec PySem PyProof.Rows

/-! ### targets that are items of own lists: a[i], a[j] = x, y -/
section
variable {X : Cx} {W : WX}
def runT : List (D → MS) → List D → MS
  | [], [], e => .ok .nx e
  | m :: ms, d :: ds, e => match m d e with
    | .ok .nx e2 => runT ms ds e2
    | .ok _ _ => .bad
    | .exc c fs e2 => .exc c fs e2
    | .bad => .bad
  | _, _, _ => .bad
variable {x : Str} {p p2 pos : Pos} {e ek : Expr} {es : List Expr} {m : D → MS} {ms : List (D → MS)} {fk : M Sl}
def sParT (ms : List (D → MS)) (g : M (List D)) : MS := fun en => (g en).bind fun ds e => if ds.length = ms.length ∧ ds.length ≤ 1000 then runT ms ds e else .bad
/-! ### x.pop(e) -/
def popAt (i : Nat) (k : D) (e : En) : R Sl := match e[i]? with
  | some (.own b xs) => match k with
    | .int k => match ixN xs.length k with
      | some j => match xs[j]? with
        | some d => if xs.length ≤ LIM then .ok (.val d) (e.set i (.own b (xs.eraseIdx j))) else .bad
        | none => .bad
      | none => .bad
    | _ => .bad
  | _ => .bad
def isOwnB (e : En) (i : Nat) : Bool := match e[i]? with
  | some (.own _ _) => true
  | _ => false
def vPop (i : Nat) (g : M (List D)) : M Sl := fun en => if isOwnB en i = true then (g en).bind fun ks e => match ks with
    | [k] => popAt i k e
    | _ => .bad
  else .bad
end
end Mv

namespace Mv
open L2 PySem.Spec PySem PyProof.Rows
/-! ### sorted(set(xs)), xs a list of ints -/
section
variable {P : Program} {w : World} {A :
                                                                                                              Around} {E : Value → Shared → Prop} {s : Shared}
end

/-- the members once, in order -/
def dedup : List Int → List Int
  | [] => []
  | n :: ns => if n ∈ ns then dedup ns else n :: dedup ns
def sortSet (ns : List Int) : List Int := (dedup ns).mergeSort fun a b => decide (a ≤ b)
section
variable {X : Cx} {W : WX} {a : Expr} {p p2 q pos : Pos} {f : M Sl}
def vSortSet (f : M Sl) : M Sl := fun en => (vD f en).bind fun d e => match d with
  | .list ds => match intsOf ds with
    | some ns => if ns.length < 64 then .ok (.own false ((sortSet ns).map PyData.int)) e else .bad
    | none => .bad
  | _ => .bad
end
end Mv

namespace Mv
open L2 PySem.Spec PySem PyProof.Rows

/-! ### comprehensions of two sources -/
section
variable {X : Cx} {W : WX} {tg e a b : Expr} {f : M Sl} {g : M (List D)} {p pos : Pos}
end
section
variable {it it1 : M (List D)} {pat pat1 : D → En → Option En} {tt tt1 : M Bool} {el : M Sl}
end

section
variable {X : Cx} {W : WX} {elt tg iter tg1 iter1 : Expr} {ifs ifs1 : List Expr} {scope : Scope} {own : List (Str × Nat)} {vs1 : List Nat} {pos : Pos} {it it1 : M (List D)} {pat pat1 : D → En → Option En} {tt tt1 : M Bool} {el : M Sl}
end
/-! ### list(range(a, b)), tuple(range(n)) -/
section
variable {X : Cx} {W : WX} {a b : Expr} {p p2 pos pos2 : Pos} {f g : M Sl}
def vListR2 (f g : M Sl) : M Sl := fun en => (vD f en).bind fun c e => (vD g e).bind fun d e2 => match c, d with
  | .int m, .int n => if m.natAbs ≤ LIM ∧ n.natAbs ≤ LIM then .ok (.own false (rngD m (n - m).toNat)) e2 else .bad
  | _, _ => .bad
def vTupR (f : M Sl) : M Sl := fun en => (vD f en).bind fun d e => match d with
  | .int n => if n.natAbs ≤ LIM then .ok (.val (.tuple (rngD 0 n.toNat))) e else .bad
  | _ => .bad
end
end Mv

namespace Mv
open L2 PySem.Spec PySem PyProof.Rows

/-! ### comparisons of a name whose list stays its own -/
def lendO (o : Option Sl) (e : En) : R Sl := match o with
  | some (.val d) => if scal0 d = true then .ok (.val d) e else .bad
  | _ => .bad
@[simp] theorem lendO_bool (b : Bool) (e : En) : lendO (some (.val (.bool b))) e = .ok (.val (.bool b)) e := rfl
@[simp] theorem lendO_int (b : Int) (e : En) : lendO (some (.val (.int b))) e = .ok (.val (.int b)) e := rfl
/-- what a slot holds, to be looked at alone -/
def vLook {α : Type} (i : Nat) (e : En) (k : D → R α) : R α := match agOf e (.slot i) with
  | some x => k x
  | none => .bad
def vOpL (i : Nat) (o : D → D → Option Sl) (f : M Sl) : M Sl := fun en => vLook i en fun _ => (vD f en).bind fun y e => vLook i e fun x => lendO (o x y) e
def vOpR (o : D → D → Option Sl) (f : M Sl) (i : Nat) : M Sl := fun en => (vD f en).bind fun x e => vLook i e fun y => lendO (o x y) e
section
variable {X : Cx} {W : WX} {a b : Expr} {x : Str} {p pos : Pos} {f : M Sl} {op : CmpOp} {o : D → D → Option Sl}
end
end Mv

namespace Mv
open L2 PySem.Spec PySem PyProof.Rows

/-! ### f(bag, xs), both lists their caller's own: a def that returns one expression -/
structure GrB2 (b c : Addr) (F H F' H' : Hp) : Prop where
  ff : Same F F'
  fh : Same F' H'
  hh : ∀ a o, a ≠ b → a ≠ c → H a = some o → H' a = some o
  nw : ∀ a o, F' a = some o → F a = some o ∨ H a = none
def spB2 (K : PySem.W.Frag) (m : List D → List D → Option (D × List D × List D)) : Sp := fun vs H Q _ => ∃ (b c : Addr) (ws us : List V) (xs zs : List D) (F : Hp),
  vs = [.ref b, .ref c] ∧ b ≠ c ∧ H b = some (.lst ws) ∧ H c = some (.lst us) ∧ F b = none ∧ F c = none ∧ Same F H ∧ DpAll K F ws xs ∧ DpAll K F us zs ∧ match m xs zs with
  | some (d, ys, zs') => ∀ F' H' v ws' us', GrB2 b c F H F' H' → H' b = some (.lst ws') → DpAll K F' ws' ys → H' c = some (.lst us') → DpAll K F' us' zs' → Dp K F' v d → Q v H'
  | none => False
structure FnB2 (P : Program) (w : World) (K : PySem.W.Frag) (mg : Str → Option Value) (base : Heap) (x : Str) (k : Nat) (m : List D → List D → Option (D × List D × List D)) : Prop where
  ex : ∃ (f : Addr) (fd : FuncData) (ps : List Str), FnG P w K mg base k f fd ps (spB2 K m) ∧ mg x = some (.ref f) ∧ PySem.W.keepIn K (.ref f) = true ∧ Binds K fd ps []
theorem FnB2.mono {P : Program} {w : World} {K : PySem.W.Frag} {mg : Str → Option Value} {base : Heap} {x : Str} {j k : Nat} {m : List D → List D → Option (D × List D × List D)} (F : FnB2 P w K mg base x j m) (h : j ≤ k) : FnB2 P w K mg base x k m :=
  let ⟨f, fd, ps, h1, h2⟩ := F.ex
  ⟨f, fd, ps, h1.mono h, h2⟩
section
variable {K : PySem.W.Frag} {F H F' H' : Hp} {B : Bs} {σ : L2.St} {en : En}
end
section
variable {P : Program} {w : World} {K : PySem.W.Frag} {mg : Str → Option Value} {base : Heap} {x qual : Str} {st : Stmt} {f : Addr} {fd : FuncData} {N : List Str} {k : Nat} {p1 p2 : Str}
end
/-- f(bag, xs) -/
def vCallB2 (i j : Nat) (m : List D → List D → Option (D × List D × List D)) : M Sl := fun e => match (e[i]? : Option Sl), (e[j]? : Option Sl) with
  | some (.own b xs), some (.own b2 zs) => (match m xs zs with
    | some (d, ys, zs') => if i ≠ j then .ok (.val d) ((e.set i (.own b ys)).set j (.own b2 zs')) else .bad
    | none => .bad)
  | _, _ => .bad
section
variable {X : Cx} {W : WX} {x y z : Str} {p py pz pos : Pos} {k : Nat} {m : List D → List D → Option (D × List D × List D)}
end
end Mv

namespace Mv
open L2 PySem.Spec PySem PyProof.Rows
/-! ### tuple * 1, tuple * 0, () * n -/
theorem tuple_mul_same (l : Addr) (items : Array Value) (n : Nat) (sl : Array (Option Value)) (dd : Option Addr) (x : Int) (u : Tok) (c0 : (decide (x < -(2 ^ 63)) || decide (x ≥ 2 ^ 63)) = false) (c1 : (items.isEmpty || x == 1) = true) :
    Meets (Builtin.«tuple.__mul__» ⟨[.ref l, .int x u], []⟩) (fun _ R s =>
                                                                                                                  s.heap.get? l = some { cls := .type "tuple", dict := dd, data := .seq items n, slots := sl } ∧
      R (.ok (.ret (Value.ref l))) s) :=
  .of_wp fun prog w A R s h =>
                                                                                                                by
    obtain ⟨hp, g,
                                                                                                                  d, tk, os⟩ := s
    obtain ⟨hl, h⟩ := h
    have f1 := AutoSeq1.idx_int
    wp_walk using
                                                                                                                  wpAny_loadPart' hl
    repeat (first
      | (refine wpAny_ite_false (decide_eq_false (by rw [c0];
                                                                                                                    exact Bool.false_ne_true)) ?_; wp_walk using wpAny_loadPart' hl)
      | (refine wpAny_ite_true (decide_eq_true (by rw [c1])) ?_; wp_walk using wpAny_loadPart' hl))
    exact ⟨_, rfl, h⟩
theorem tuple_mul_none (l : Addr) (items : Array Value) (n : Nat) (sl : Array (Option Value)) (dd : Option Addr) (x : Int) (u : Tok) (c0 : (decide (x < -(2 ^ 63)) || decide (x ≥ 2 ^ 63)) = false) (c1 : (items.isEmpty || x == 1) = false) (c2 : (decide (x ≤ 0) || items.isEmpty) = true) :
    Meets (Builtin.«tuple.__mul__» ⟨[.ref l, .int x u], []⟩) (fun _ R s =>
                                                                                                                  s.heap.get? l = some { cls := .type "tuple", dict := dd, data := .seq items n, slots := sl } ∧
      R (.ok (.ret (Value.ref s.heap.objs.size))) { s with heap := s.heap.push { cls := Value.type "tuple", data := Data.seq #[] }, toks := s.toks }) :=
  .of_wp fun prog w A R s h =>
                                                                                                                by
    obtain ⟨hp, g,
                                                                                                                  d, tk, os⟩ := s
    obtain ⟨hl, h⟩ := h
    have f1 := AutoSeq1.idx_int
    wp_walk using
                                                                                                                  wpAny_loadPart' hl
    repeat (first
      | (refine wpAny_ite_false (decide_eq_false (by rw [c0];
                                                                                                                    exact Bool.false_ne_true)) ?_; wp_walk using wpAny_loadPart' hl)
      | (refine wpAny_ite_false (decide_eq_false (by rw [c1];
                                                                                                                    exact Bool.false_ne_true)) ?_; wp_walk using wpAny_loadPart' hl)
      | (refine wpAny_ite_true (decide_eq_true (by rw [c2])) ?_; wp_walk using wpAny_loadPart' hl))
    exact ⟨_, rfl, h⟩
def rRepT1 (K : PySem.W.Frag) : R2 := fun x y H Q => ∃ l k xs, x = .ref l ∧ y = .int k ∧ SqT K H l xs ∧ k.natAbs < 1000000 ∧ (((xs = [] ∨ k = 1) ∧ Q (.ref l) H) ∨ (xs ≠ [] ∧ k ≤ 0 ∧ ∀ p, H p = none → Q (.ref p) (upd H p (.tup []))))
section
variable {X : Cx}
theorem op_repT1 : OpR X (binaryOp .Mult) (rRepT1 X.K) := by
  intro pins s σ H x y
  intro v u Q I rx ry h
  obtain ⟨l, k, xs, rfl, rfl, hT, hk, h⟩ := h
  cases rx
  obtain ⟨t, rfl⟩ := ry
  obtain ⟨its, r, ⟨⟨cls, dd, data,
                                                                                                                sl⟩, ho, hc, n, hd⟩, hs⟩ := I.tuple hT
  simp only at hc hd
  subst hc hd
  have hle : its.length = xs.length :=
                                                                                                                r.length.symm
  have hi : its.toArray.isEmpty = decide (xs = []) := by
    cases its with
    | nil =>
      have : xs = [] := List.eq_nil_of_length_eq_zero hle.symm
      rw [this]; rfl
    | cons a b =>
      have : xs ≠ [] := fun e => by rw [e] at hle; cases hle
      rw [decide_eq_false this]; rfl
  have c0 : (decide (k < -(2 ^ 63)) || decide
                                                                                                                (k ≥ 2 ^ 63)) = false := by
    rw [decide_eq_false (by omega),
                                                                                                                  decide_eq_false (by omega)] <;> rfl
  refine wpAny_binaryOp_repeat_ref (T := "tuple") (U := "int") (by decide) ⟨_, ho, rfl⟩ (fun s' =>
                                                                                                                typeIs_int s' k t) noFill_tuple_mul F.fills_int_mul F.slot_int_rmul repeat_tuple F.slot_int_index.lookup
    (call_meets F.slot_int_rmul (typeIs_int s k t) F.entry_int_rmul
                                                                                                                  (F.args_int_rmul_2 _ _) (int_rmul_tuple k t l its.toArray n dd sl)
      ⟨ho, rfl, ⟨_, ho, rfl⟩, ?_⟩)
  rcases h with ⟨h1, q⟩ | ⟨h1, h2, q⟩
  · have c1 : (its.toArray.isEmpty || k == 1) = true := by
      rw [hi]
      rcases h1 with h1 | h1
      · rw [decide_eq_true h1]; rfl
      · rw [h1]; simp
    exact call_meets F.slot_tuple_mul ⟨_, ho, rfl⟩ F.entry_tuple_mul (F.args_tuple_mul_2 _ _) (tuple_mul_same l its.toArray n sl dd k t c0 c1) ⟨ho, ⟨.ref l, H, I, rfl, q⟩⟩
  · have c1 : (its.toArray.isEmpty || k == 1) = false := by
      rw [hi, decide_eq_false h1, Bool.false_or]
      exact beq_eq_false_iff_ne.mpr
                                                                                                                    (by omega)
    have c2 : (decide (k ≤ 0) || its.toArray.isEmpty) = true := by rw [decide_eq_true h2]; rfl
    refine call_meets F.slot_tuple_mul ⟨_, ho, rfl⟩ F.entry_tuple_mul (F.args_tuple_mul_2 _ _) (tuple_mul_none l its.toArray n sl dd k t c0 c1 c2) ⟨ho, ?_⟩
    refine ⟨.ref s.heap.objs.size, _, I.laid (t' := s.toks) (o := .tup []) (fun b ob q => Heap.get?_push_of_some _ q) (Nat.le_refl _) ?_, rfl, q _ (I.hok.fresh (Nat.le_refl _))⟩
    exact ⟨by rw [List.length_nil]; exact Nat.zero_le _, [], .nil, IsTup.new _ _⟩
def dMul2 : D → D → Option Sl
  | .tuple xs, .int k => if k.natAbs < 1000000 then (if xs = [] ∨ k = 1 then some (.val (.tuple xs)) else if k ≤ 0 then some (.val (.tuple [])) else dMul (.tuple xs) (.int k)) else none
  | x, y => dMul x y
theorem ov_mul2 : OV X (binaryOp .Mult) dMul2 := by
  have h2 := (ov_mul (X := X)).or (op_repT1 (X := X))
  intro pins s σ H x y v u Q I rx ry ⟨F, a, b, s0, ra, rb, k⟩
  refine h2 pins s σ H x y v u Q I rx ry ?_
  by_cases hab : ∃ xs n, a = .tuple xs ∧ b = .int n
  · obtain ⟨xs, n, rfl, rfl⟩ := hab
    unfold dMul2 at k
    dsimp only at k
    split at k
    · rename_i hn
      obtain ⟨a1, us, rfl, h1, r1⟩ := tup_of ra
      have hy := int_of rb
      subst hy
      split at k
      · rename_i hx
        refine .inr ⟨a1, n, us, rfl, rfl, sqT_mono s0 h1, hn, .inl ⟨hx.imp (fun e => ?_) id, k.val s0 ra⟩⟩
        subst e
        cases r1
        rfl
      · rename_i hx
        split at k
        · rename_i h0
          refine .inr ⟨a1, n, us, rfl, rfl, sqT_mono s0 h1, hn, .inr ⟨fun e => hx (.inl ?_), h0, k.tup s0 .nil⟩⟩
          subst e
          cases r1
          rfl
        · exact .inl ⟨F, _, _, s0, ra, rb, k⟩
    · exact k.elim
  · have e : dMul2 a b = dMul a b := by
      unfold dMul2
      split
      · exact absurd ⟨_, _, rfl, rfl⟩ hab
      · rfl
    rw [e] at k
    exact .inl ⟨F, a, b, s0, ra, rb, k⟩
end
end Mv

namespace Mv
open L2 PySem.Spec PySem PyProof.Rows

/-! ### a name's own list is moved -/
section
variable {X : Cx} {W : WX} {pos : Pos}
end
/-! ### own lists of tuples, lent to a def that is given the bag -/
section
variable {K : PySem.W.Frag} {F F' F2 : Hp}
end

section
variable {K : PySem.W.Frag} {mg : Str → Option Value} {B : Bs} {W : WX} {σ : L2.St} {en : En} {F H : Hp}
end
section
variable {X : Cx} {W : WX} {e : Expr} {es : List Expr} {x y : Str} {p py pos : Pos} {g : M (List Ag)} {k : Nat} {mb : List D → List D → Option (Out × List D)}
end
end Mv

namespace Sh
open PySem Mv
/-! ### exchanged_row -/
/-! ### is_leaving -/
/-! ### is_exchange -/
/-! ### orders_of -/
/-! ### exchanges_of -/
/-! ### classes_of -/
/-! ### _law_flat -/
/-! ### _law_sides -/
/-! ### _law_row -/
/-! ### _law_drawn_table -/
/-! ### _law_split_bounds -/
def t1__law_heavy_table (n : Nat) : M Bool := vB (vOp dNe (vVar 13) (vVar 7))
def e2__law_heavy_table (n : Nat) : M Sl := vTup (vCons (vVar 13) (vCons (vCallB 0 m__law_one (vCons (vLst (vCons (vC (.int 0)) (vCons (vC (.int 1)) (vCons (vC (.int 0)) (vCons (vC (.int 2)) (vCons (vC (.int 3)) (vNil))))))) (vNil))) (vNil)))
def s1__law_heavy_table (n : Nat) : MS := sSet 8 (vLc (vRng1 (vCons (vVar 1) (vNil))) (pNm 13) (t1__law_heavy_table n) (e2__law_heavy_table n) [13])
/-! ### _law_heavy_table -/
/-! ### _law_any_table -/
/-! ### _law_orders -/
def b1__law_piece (n : Nat) : MS := sSeq (sAsg (pTup (pCons (pNm 5) (pCons (pNm 6) (pNil)))) (vCallB 0 m__law_bounds (vCons (vCallB 0 m__law_one (vCons (vLst (vCons (vC (.int 3)) (vCons (vC (.int 6)) (vCons (vC (.int 9)) (vNil))))) (vNil))) (vNil)))) (sSeq (sSet 7 (vCallB 0 m__law_one (vCons (vLst (vCons (vC (.int 0)) (vCons (vC (.int 0)) (vCons (vC (.int 1)) (vCons (vUn dNeg (vC (.int 1))) (vCons (vC (.int 2)) (vCons (vUn dNeg (vC (.int 3))) (vCons (vC (.int 3)) (vNil))))))))) (vNil)))) (sSeq (sApp 3 (vTup (vCons (vCallB 0 m__law_take (vCons (vVar 2) (vNil))) (vCons (vCallB 0 m__law_take (vCons (vVar 2) (vNil))) (vCons (vVar 7) (vCons (vVar 5) (vCons (vVar 6) (vNil)))))))) (sIf (vB (vOp dEq (vCallB 0 m__law_take (vCons (vC (.int 8)) (vNil))) (vC (.int 0)))) (sApp 3 (vIxv 3 (vUn dNeg (vC (.int 1))))) (sNil))))
def e1__law_piece (n : Nat) : M Sl := vCallB 0 m__law_one (vCons (vLst (vCons (vTup (vCons (vC (.int 0)) (vCons (vC (.int 0)) (vNil)))) (vCons (vTup (vCons (vC (.int 0)) (vCons (vC (.int 2)) (vNil)))) (vCons (vTup (vCons (vC (.int 1)) (vCons (vC (.int 3)) (vNil)))) (vCons (vTup (vCons (vC (.int 2)) (vCons (vC (.int 2)) (vNil)))) (vNil)))))) (vNil))
/-! ### _law_piece -/
def g__law_piece (n : Nat) : MS := sSeq (sPar [2, 3] (lCons (vOp dAdd (vC (.int 1)) (vCallB 0 m__law_take (vCons (vVar 1) (vNil)))) (lCons (vLst (vNil)) (lNil)))) (sSeq (sFor (vRng1 (vCons (vCallB 0 m__law_one (vCons (vLst (vCons (vC (.int 2)) (vCons (vC (.int 3)) (vCons (vC (.int 4)) (vCons (vC (.int 6)) (vCons (vC (.int 1)) (vCons (vC (.int 0)) (vNil)))))))) (vNil))) (vNil))) (pNm 4) (b1__law_piece n)) (sSeq (sSet 8 (vCb dTuple (vCons (vLc (vRng1 (vCons (vVar 2) (vNil))) (pNm 9) (bYes) (e1__law_piece n) [9]) (vNil)))) (sRet (vTup (vCons (vVar 2) (vCons (vCb dTuple (vCons (vSl (vCb dSorted (vCons (vVar 3) (vNil))) (oNone) (oSome (vC (.int 7)))) (vNil))) (vCons (vVar 8) (vNil))))))))
def m__law_piece : List D → List D → Option (Out × List D) := runB 2 10 g__law_piece (fun _ _ => 0)
def e1__law_heavy_piece (n : Nat) : M Sl := vOp dAdd (vC (.int 1)) (vCallB 0 m__law_take (vCons (vC (.int 2)) (vNil)))
def b1__law_heavy_piece (n : Nat) : MS := sSeq (sPar [10, 11] (lCons (vCallB 0 m__law_take (vCons (vVar 3) (vNil))) (lCons (vCallB 0 m__law_one (vCons (vLst (vCons (vC (.int 1)) (vCons (vC (.int 2)) (vCons (vC (.int 1)) (vNil))))) (vNil))) (lNil)))) (sSeq (sApp 6 (vTup (vCons (vIxv 4 (vVar 7)) (vCons (vVar 10) (vCons (vCallB 0 m__law_one (vCons (vLst (vCons (vC (.int 1)) (vCons (vUn dNeg (vC (.int 1))) (vCons (vC (.int 2)) (vCons (vC (.int 0)) (vCons (vC (.int 3)) (vNil))))))) (vNil))) (vCons (vCallB 0 m__law_take (vCons (vOp dAdd (vVar 11) (vC (.int 1))) (vNil))) (vCons (vVar 11) (vNil)))))))) (sAug 8 (fun i j => i + j) (vOp dMul2 (vVar 11) (vIxv 5 (vVar 10)))))
def b2__law_heavy_piece (n : Nat) : MS := sSeq (sSet 8 (vC (.int 1))) (sSeq (sFor (vRng1 (vCons (vCallB 0 m__law_take (vCons (vC (.int 3)) (vNil))) (vNil))) (pNm 9) (b1__law_heavy_piece n)) (sSeq (sSet 12 (vOp dFdiv (vOp dSub (vOp dAdd (vVar 8) (vIxv 5 (vVar 7))) (vC (.int 1))) (vIxv 5 (vVar 7)))) (sApp 6 (vTup (vCons (vIxv 4 (vVar 7)) (vCons (vVar 7) (vCons (vIf (vB (vVar 2)) (vC (.int 0)) (vCallB 0 m__law_one (vCons (vLst (vCons (vC (.int 0)) (vCons (vC (.int 1)) (vCons (vUn dNeg (vC (.int 1))) (vCons (vC (.int 2)) (vNil)))))) (vNil)))) (vCons (vVar 12) (vCons (vOp dAdd (vVar 12) (vCallB 0 m__law_take (vCons (vC (.int 2)) (vNil)))) (vNil))))))))))
def e2__law_heavy_piece (n : Nat) : M Sl := vCallB 0 m__law_one (vCons (vLst (vCons (vTup (vCons (vC (.int 0)) (vCons (vC (.int 0)) (vNil)))) (vCons (vTup (vCons (vC (.int 0)) (vCons (vC (.int 2)) (vNil)))) (vCons (vTup (vCons (vC (.int 1)) (vCons (vC (.int 3)) (vNil)))) (vNil))))) (vNil))
def s1__law_heavy_piece (n : Nat) : MS := sPar [4, 5, 6] (lCons (vCallB 0 m__law_mixed (vCons (vListR (vVar 3)) (vNil))) (lCons (vLc (vRng1 (vCons (vVar 3) (vNil))) (pNm 7) (bYes) (e1__law_heavy_piece n) [7]) (lCons (vLst (vNil)) (lNil))))
def s2__law_heavy_piece (n : Nat) : MS := sSet 13 (vCb dTuple (vCons (vLc (vRng1 (vCons (vVar 3) (vNil))) (pNm 7) (bYes) (e2__law_heavy_piece n) [7]) (vNil)))
def s3__law_heavy_piece (n : Nat) : MS := sRet (vTup (vCons (vVar 3) (vCons (vCb dTuple (vCons (vCb dSorted (vCons (vVar 6) (vNil))) (vNil))) (vCons (vVar 13) (vNil)))))
/-! ### _law_heavy_piece -/
def g__law_heavy_piece (n : Nat) : MS := sSeq (sSet 3 (vOp dAdd (vC (.int 1)) (vCallB 0 m__law_take (vCons (vVar 1) (vNil))))) (sSeq (s1__law_heavy_piece n) (sSeq (sIf (vB (vVar 2)) (sSet 4 (vListR (vVar 3))) (sNil)) (sSeq (sFor (vRng1 (vCons (vVar 3) (vNil))) (pNm 7) (b2__law_heavy_piece n)) (sSeq (s2__law_heavy_piece n) (s3__law_heavy_piece n)))))
def m__law_heavy_piece : List D → List D → Option (Out × List D) := runB 3 14 g__law_heavy_piece (fun _ _ => 0)
/-! ### _law_any_piece -/
def g__law_any_piece (n : Nat) : MS := sSeq (sSet 2 (vCallB 0 m__law_take (vCons (vC (.int 4)) (vNil)))) (sRet (vIf (vB (vOp dEq (vVar 2) (vC (.int 0)))) (vCallB 0 m__law_piece (vCons (vVar 1) (vNil))) (vCallB 0 m__law_heavy_piece (vCons (vVar 1) (vCons (vOp dEq (vVar 2) (vC (.int 1))) (vNil))))))
def m__law_any_piece : List D → List D → Option (Out × List D) := runB 2 3 g__law_any_piece (fun _ _ => 0)
def b1__law_ring (n : Nat) : MS := sIf (vB (vOp dEq (vVar 9) (vVar 7))) (sSeq (sSet 14 (vOp dAdd (vVar 6) (vVar 11))) (sApp 8 (vTup (vCons (vOp dAdd (vOp dMul2 (vOp dSub (vVar 14) (vOp dMul2 (vOp dFdiv (vVar 14) (vVar 1)) (vVar 1))) (vVar 2)) (vVar 10)) (vCons (vVar 12) (vCons (vVar 13) (vNil))))))) (sNil)
def b2__law_ring (n : Nat) : MS := sSeq (sSet 8 (vLst (vNil))) (sSeq (sFor (vItems (vVar 3)) (pTup (pCons (pNm 9) (pCons (pNm 10) (pCons (pNm 11) (pCons (pNm 12) (pCons (pNm 13) (pNil))))))) (b1__law_ring n)) (sApp 5 (vTup (vCons (vCb dTuple (vCons (vCb dSorted (vCons (vVar 8) (vNil))) (vNil))) (vCons (vIxv 4 (vVar 7)) (vNil))))))
def b3__law_ring (n : Nat) : MS := sFor (vRng1 (vCons (vVar 2) (vNil))) (pNm 7) (b2__law_ring n)
/-! ### _law_ring -/
def g__law_ring (n : Nat) : MS := sSeq (sAsg (pTup (pCons (pNm 2) (pCons (pNm 3) (pCons (pNm 4) (pNil))))) (vVar 0)) (sSeq (sSet 5 (vLst (vNil))) (sSeq (sFor (vRng1 (vCons (vVar 1) (vNil))) (pNm 6) (b3__law_ring n)) (sRet (vTup (vCons (vOp dMul2 (vVar 1) (vVar 2)) (vCons (vCb dTuple (vCons (vVar 5) (vNil))) (vNil)))))))
def m__law_ring : List D → Option Out := runM 2 15 g__law_ring (fun _ => 0)
/-! ### _law_exchanged -/
/-! ### _law_is_exchange -/
/-! ### _law_classes -/
/-! ### _law_like_table -/
/-! ### _law_some_table -/
/-! ### _law_values -/
end Sh

namespace Mv
open L2 PySem.Spec PySem PyProof.Rows

/-! ### repr of data with long numbers (up to 12900 bits), where the limit of digits stands as it began -/
mutual
def tellB : D → Bool
  | .none | .bool _ |
                                                                                                                .str _ => true
  | .int i => decide (i.natAbs.log2 < 12900)
  | .list xs => tellBs xs
  | .tuple xs => tellBs xs
  | .dict _ => false
def tellBs : List D → Bool
  | [] => true
  | x :: xs => tellB x && tellBs xs
end
section
variable {prog :
                                                                                                              Program} {w : World} {h₀ : Heap}
end
def longOk (d : D) : Prop := tellB d = true ∧ d.shown.length ≤ LIM ∧ d.depth ≤ 100
instance (d : D) : Decidable (longOk d) := inferInstanceAs (Decidable (_ ∧ _ ∧ _))
section
variable {X : Cx}
end
/-! ### the law, called, where the limit of digits stands as it began -/
end Mv

namespace Mv
open L2 PySem.Spec PySem PyProof.Rows SlX

/-! ### instances with slots as values: e.f, e.m(..) -/
section
variable {X : Cx} {W : WX} {e o : Expr} {es : List Expr} {f m : Str} {pos apos : Pos} {fo : M Sl} {g : M (List D)}
/-! ### methods -/
/-- a def of the class of that name keeps a promise -/
structure FnM (P : Program) (w : World) (K : PySem.W.Frag) (mg : Str → Option Value) (base : Heap) (nm x : Str) (k : Nat) (m : List D → Option Out) : Prop where
  ex : ∃ (C f : Addr) (fd : FuncData) (ps : List Str), PySem.W.nsIn K mainGlobals nm = some (some (.ref C)) ∧ Meth K C x f ∧ FnG P w K mg base k f fd ps (spV K mg m) ∧ Binds K fd ps []
theorem FnM.mono {P : Program} {w : World} {K : PySem.W.Frag} {mg : Str → Option Value} {base : Heap} {nm x : Str} {j k : Nat} {m : List D → Option Out} (F : FnM P w K mg base nm x j m) (h : j ≤ k) : FnM P w K mg base nm x k m :=
  let ⟨C, f, fd, ps, h1, h2, h3, h4⟩ := F.ex
  ⟨C, f, fd, ps, h1, h2, h3.mono h, h4⟩
section
variable {k : Nat} {nm : Str} {mm : List D → Option Out} {pl : Sem Bool}
end
end
end Mv

namespace Mv
open L2 PySem.Spec PySem PyProof.Rows

/-! ### dicts of ints and texts: {k: v for ..}, d.get(k, x) -/
def KvR (K : PySem.W.Frag) (F : Hp) : List (Key × V) → List (Key × D) → Prop
  | [], [] => True
  | p :: ps, q :: qs => p.1 = q.1 ∧ Dp K F p.2 q.2 ∧ KvR K F ps qs
  | _, _ => False
def putG (l : List (Key × D)) (k : Key) (d : D) : List (Key × D) := if (l.any fun p => decide (p.1 = k)) = true then l.map (fun p => if p.1 = k then (p.1, d) else p) else l ++ [(k, d)]
def kvD (l : List (Key × D)) : List (D × D) := l.map fun p => (keyD p.1, p.2)
section
variable {K : PySem.W.Frag} {F F' : Hp}
theorem KvR.mono (e : Same F F') : ∀ {a : List (Key × V)} {b : List (Key × D)}, KvR K F a b → KvR K F' a b
  | [], [], _ => True.intro
  | _ :: _, _ :: _, h => ⟨h.1, dp_mono e h.2.1, KvR.mono e h.2.2⟩
  | [], _ :: _, h => h.elim
  | _ :: _, [], h => h.elim
theorem KvR.len : ∀ {a : List (Key × V)} {b : List (Key × D)}, KvR K F a b → a.length = b.length
  | [], [], _ => rfl
  | _ :: _, _ :: _, h => by rw [List.length_cons, List.length_cons, KvR.len h.2.2]
  | [], _ :: _, h => h.elim
  | _ :: _, [], h => h.elim
theorem KvR.any (k : Key) : ∀ {a : List (Key × V)} {b : List (Key × D)}, KvR K F a b → (a.any fun p => decide (p.1 = k)) = b.any fun p => decide (p.1 = k)
  | [], [], _ => rfl
  | _ :: _, _ :: _, h => by rw [List.any_cons, List.any_cons, KvR.any k h.2.2, h.1]
  | [], _ :: _, h => h.elim
  | _ :: _, [], h => h.elim
theorem KvR.app {v : V} {d : D} {k : Key} (r : Dp K F v d) : ∀ {a : List (Key × V)} {b : List (Key × D)}, KvR K F a b → KvR K F (a ++ [(k, v)]) (b ++ [(k, d)])
  | [], [], _ => ⟨rfl, r, True.intro⟩
  | _ :: _, _ :: _, h => ⟨h.1, h.2.1, KvR.app r h.2.2⟩
  | [], _ :: _, h => h.elim
  | _ :: _, [], h => h.elim
theorem KvR.map {v : V} {d : D} {k : Key} (r : Dp K F v d) : ∀ {a : List (Key × V)} {b : List (Key × D)}, KvR K F a b → KvR K F (a.map fun p => if p.1 = k then (p.1, v) else p) (b.map fun p => if p.1 = k then (p.1, d) else p)
  | [], [], _ => True.intro
  | p :: _, q :: _, h => by
    refine ⟨?_, ?_, KvR.map r h.2.2⟩
    · show (if p.1 = k then (p.1, v) else p).1 = (if q.1 = k then (q.1, d) else q).1
      rw [h.1]
      split
      · rfl
      · exact h.1
    · show Dp K F (if p.1 = k then (p.1, v) else p).2 (if q.1 = k then (q.1, d) else q).2
      rw [h.1]
      split
      · exact r
      · exact h.2.1
  | [], _ :: _, h => h.elim
  | _ :: _, [], h => h.elim
theorem KvR.put {v : V} {d : D} {k : Key} {a : List (Key × V)} {b : List (Key × D)} (h : KvR K F a b) (r : Dp K F v d) : KvR K F (putK a k v) (putG b k d) := by
  unfold putK putG
  rw [h.any k]
  split
  · exact h.map r
  · exact h.app r
theorem KvR.dp : ∀ {a : List (Key × V)} {b : List (Key × D)}, KvR K F a b → DpKv K F a (kvD b)
  | [], [], _ => .nil
  | (k, v) :: _, (k2, d) :: _, h => by
    obtain ⟨h1, h2, h3⟩ := h
    have h1 : k = k2 := h1
    subst h1
    exact .cons h2 (KvR.dp h3)
  | [], _ :: _, h => h.elim
  | _ :: _, [], h => h.elim
end
section
variable {K : PySem.W.Frag} {B : Bs} {σ : L2.St} {en : En} {F F0 H : Hp} {a : Addr} {o1 : HO}
end
section
variable {X : Cx} {W : WX} {kx vx tg iter : Expr} {ifs : List Expr} {scope : Scope} {own : List (Str × Nat)} {pos : Pos} {it : M (List D)} {pat : D → En → Option En} {tt : M Bool} {ek ev : M Sl}
end
/-! ### d.get(k, x) -/
section
variable {X : Cx} {W : WX} {o e f : Expr} {apos cpos : Pos} {fo fk fx : M Sl}
/-! ### xs.index(x) -/
end
end Mv

namespace Mv
open L2 PySem.Spec PySem PyProof.Rows

/-! ### enumerate(xs, k) -/
section
variable {X : Cx} {W : WX} {a b : Expr} {g : M (List D)} {p pos tpos : Pos} {elts : List Expr} {kk : Nat}
end
end Mv

namespace Mv
open L2 PySem.Spec PySem PyProof.Rows

/-! ### blocks, with raw statements behind -/
section
variable {X : Cx} {W : WX} {st : Stmt} {sts rs : List Stmt} {g h : MS} {pos : Pos}
end
/-! ### a slot as a target -/
/-! ### rows[i] = [..]; rows[j][p] = v: the list that was stored is changed -/
section
variable {X : Cx} {W : WX}
end
end Mv

/-! Lp: linear programs. Lp1: sums, determinants. Plain Lean, no program in sight. -/
namespace Lp
/-! ### sums -/
def sm : Nat → (Nat → Rat) → Rat
  | 0, _ => 0
  | n + 1, f => sm n f + f n
theorem sm_congr {n : Nat} {f g : Nat → Rat} (h : ∀ k, k < n → f k = g k) : sm n f = sm n g := by
  induction n with
  | zero => rfl
  | succ n ih => rw [sm, sm, ih fun k hk => h k (by omega), h n (by omega)]
theorem sm_zero {n : Nat} {f : Nat → Rat} (h : ∀ k, k < n → f k = 0) : sm n f = 0 := by
  induction n with
  | zero => rfl
  | succ n ih => rw [sm, ih fun k hk => h k (by omega), h n (by omega)]; grind
theorem sm_add (n : Nat) (f g : Nat → Rat) : sm n (fun k => f k + g k) = sm n f + sm n g := by
  induction n with
  | zero => simp only [sm]; grind
  | succ n ih => rw [sm, sm, sm, ih]; grind
theorem sm_mul (n : Nat) (c : Rat) (f : Nat → Rat) : sm n (fun k => c * f k) = c * sm n f := by
  induction n with
  | zero => simp only [sm]; grind
  | succ n ih => rw [sm, sm, ih]; grind
theorem sm_neg (n : Nat) (f : Nat → Rat) : sm n (fun k => - f k) = - sm n f := by
  induction n with
  | zero => simp only [sm]; grind
  | succ n ih => rw [sm, sm, ih]; grind
theorem sm_sub (n : Nat) (f g : Nat → Rat) : sm n (fun k => f k - g k) = sm n f - sm n g := by
  induction n with
  | zero => simp only [sm]; grind
  | succ n ih => rw [sm, sm, sm, ih]; grind
theorem sm_swap (n m : Nat) (f : Nat → Nat → Rat) : sm n (fun i => sm m fun j => f i j) = sm m fun j => sm n fun i => f i j := by
  induction n with
  | zero => simp only [sm]; rw [sm_zero fun _ _ => rfl]
  | succ n ih => rw [sm, ih, ← sm_add]; rfl
theorem sm_shift (n : Nat) (f : Nat → Rat) : sm (n + 1) f = f 0 + sm n fun k => f (k + 1) := by
  induction n with
  | zero => simp only [sm]; grind
  | succ n ih => rw [sm, ih, sm]; grind
theorem sm_one {n p : Nat} {f : Nat → Rat} (hp : p < n) (h : ∀ k, k < n → k ≠ p → f k = 0) : sm n f = f p := by
  induction n with
  | zero => omega
  | succ n ih =>
    rw [sm]
    by_cases e : p = n
    · subst e
      rw [sm_zero fun k hk => h k (by omega) (by omega)]; grind
    · rw [ih (by omega) fun k hk => h k (by omega), h n (by omega) (Ne.symm e)]; grind
theorem sm_nonneg {n : Nat} {f : Nat → Rat} (h : ∀ k, k < n → 0 ≤ f k) : 0 ≤ sm n f := by
  induction n with
  | zero => exact Rat.le_refl
  | succ n ih =>
    rw [sm]
    have h1 := ih fun k hk => h k (by omega)
    have h2 := h n (by omega)
    grind
/-! ### determinants, along the first column -/
def sg : Nat → Rat
  | 0 => 1
  | n + 1 => - sg n
def skip (i r : Nat) : Nat := if r < i then r else r + 1
def mn (i : Nat) (A : Nat → Nat → Rat) : Nat → Nat → Rat := fun r c => A (skip i r) (c + 1)
def det : Nat → (Nat → Nat → Rat) → Rat
  | 0, _ => 1
  | n + 1, A => sm (n + 1) fun i => sg i * A i 0 * det n (mn i A)
def setc (A : Nat → Nat → Rat) (c : Nat) (u : Nat → Rat) : Nat → Nat → Rat := fun r k => if k = c then u r else A r k
theorem skip_lt {i r n : Nat} (hr : r < n) : skip i r < n + 1 := by unfold skip; split <;> omega
theorem det_congr : ∀ {n : Nat} {A B : Nat → Nat → Rat}, (∀ r c, r < n → c < n → A r c = B r c) → det n A = det n B
  | 0, _, _, _ => rfl
  | n + 1, A, B, h => by
    rw [det, det]
    refine sm_congr fun i hi => ?_
    rw [h i 0 hi (by omega), det_congr (A := mn i A) (B := mn i B) fun r c hr hc => h _ _ (skip_lt hr) (by omega)]
theorem mn_setc0 (i : Nat) (A : Nat → Nat → Rat) (u : Nat → Rat) : mn i (setc A 0 u) = mn i A := by
  funext r c
  unfold mn setc
  rw [if_neg (by omega)]
theorem mn_setcS (i c : Nat) (A : Nat → Nat → Rat) (u : Nat → Rat) : mn i (setc A (c + 1) u) = setc (mn i A) c fun r => u (skip i r) := by
  funext r k
  unfold mn setc
  by_cases h : k = c
  · rw [if_pos (by omega), if_pos h]
  · rw [if_neg (by omega), if_neg h]
/-- linear in each column -/
theorem det_lin : ∀ {n : Nat} (A : Nat → Nat → Rat) {c : Nat}, c < n → ∀ (a b : Rat) (u w : Nat → Rat), det n (setc A c fun r => a * u r + b * w r) = a * det n (setc A c u) + b * det n (setc A c w)
  | n + 1, A, 0, _, a, b, u, w => by
    rw [det, det, det, ← sm_mul, ← sm_mul, ← sm_add]
    refine sm_congr fun i _ => ?_
    rw [mn_setc0, mn_setc0, mn_setc0]
    show sg i * (a * u i + b * w i) * _ = a * (sg i * u i * _) + b * (sg i * w i * _)
    grind
  | n + 1, A, c + 1, h, a, b, u, w => by
    rw [det, det, det, ← sm_mul, ← sm_mul, ← sm_add]
    refine sm_congr fun i _ => ?_
    rw [mn_setcS, mn_setcS, mn_setcS, det_lin (mn i A) (by omega) a b (fun r => u (skip i r)) fun r => w (skip i r)]
    have e : ∀ x : Nat → Rat, setc A (c + 1) x i 0 = A i 0 := fun x => by unfold setc; rw [if_neg (by omega)]
    rw [e, e, e]
    grind
theorem det_zero {n : Nat} (A : Nat → Nat → Rat) {c : Nat} (hc : c < n) {u : Nat → Rat} (h : ∀ r, r < n → u r = 0) : det n (setc A c u) = 0 := by
  have h1 := det_lin A hc 0 0 u u
  have h2 : det n (setc A c fun r => 0 * u r + 0 * u r) = det n (setc A c u) := det_congr fun r k hr hk => by
    unfold setc
    split
    · rw [h r hr]; grind
    · rfl
  rw [h2] at h1
  grind
theorem skip_comm {i j r : Nat} (h : i ≤ j) : skip i (skip j r) = skip (j + 1) (skip i r) := by
  unfold skip
  by_cases h1 : r < i
  · rw [if_pos (show r < j by omega), if_pos h1, if_pos (show r < j + 1 by omega)]
  · rw [if_neg h1]
    by_cases h2 : r < j
    · rw [if_pos h2, if_neg h1, if_pos (by omega)]
    · rw [if_neg h2, if_neg (by omega), if_neg (by omega)]
/-- the first two columns alike -/
theorem det_two {n : Nat} {A : Nat → Nat → Rat} (h : ∀ r, r < n + 2 → A r 0 = A r 1) : det (n + 2) A = 0 := by
  -- the terms
  let F : Nat → Nat → Rat := fun i j => sg i * A i 0 * (sg j * A (skip i j) 1 * det n (mn j (mn i A)))
  have e : det (n + 2) A = sm (n + 2) fun i => sm (n + 1) fun j => F i j := by
    rw [det]
    refine sm_congr fun i _ => ?_
    rw [det, ← sm_mul]
    rfl
  have anti : ∀ i j, i ≤ j → j < n + 1 → F (j + 1) i = - F i j := fun i j hij hj => by
    have s1 : skip i j = j + 1 := by unfold skip; rw [if_neg (by omega)]
    have s2 : skip (j + 1) i = i := by unfold skip; rw [if_pos (by omega)]
    have m : mn i (mn (j + 1) A) = mn j (mn i A) := by
      funext r c
      unfold mn
      rw [skip_comm hij]
    show sg (j + 1) * A (j + 1) 0 * (sg i * A (skip (j + 1) i) 1 * det n (mn i (mn (j + 1) A))) = -(sg i * A i 0 * (sg j * A (skip i j) 1 * det n (mn j (mn i A))))
    rw [s1, s2, m, ← h i (by omega), ← h (j + 1) (by omega)]
    show (- sg j) * A (j + 1) 0 * (sg i * A i 0 * _) = _
    grind
  let P : Nat → Nat → Rat := fun i j => if i ≤ j then F i j else 0
  have split : (sm (n + 2) fun i => sm (n + 1) fun j => F i j) = (sm (n + 2) fun i => sm (n + 1) fun j => P i j) + sm (n + 2) fun i => sm (n + 1) fun j => if i ≤ j then 0 else F i j := by
    rw [← sm_add]
    refine sm_congr fun i _ => ?_
    rw [← sm_add]
    refine sm_congr fun j _ => ?_
    show F i j = (if i ≤ j then F i j else 0) + if i ≤ j then 0 else F i j
    split <;> grind
  have first : (sm (n + 2) fun i => sm (n + 1) fun j => P i j) = sm (n + 1) fun i => sm (n + 1) fun j => P i j := by
    rw [sm]
    have : (sm (n + 1) fun j => P (n + 1) j) = 0 := sm_zero fun j hj => if_neg (by omega)
    rw [this]
    grind
  have second : (sm (n + 2) fun i => sm (n + 1) fun j => if i ≤ j then 0 else F i j) = - sm (n + 1) fun i => sm (n + 1) fun j => P i j := by
    rw [sm_shift]
    have z : (sm (n + 1) fun j => if 0 ≤ j then (0 : Rat) else F 0 j) = 0 := sm_zero fun j _ => if_pos (Nat.zero_le j)
    rw [z, ← sm_neg, sm_swap]
    have : (sm (n + 1) fun j => sm (n + 1) fun i => if i + 1 ≤ j then (0 : Rat) else F (i + 1) j) = sm (n + 1) fun i => - sm (n + 1) fun j => P i j := by
      refine sm_congr fun j hj => ?_
      rw [← sm_neg]
      refine sm_congr fun i hi => ?_
      show (if i + 1 ≤ j then (0 : Rat) else F (i + 1) j) = - (if j ≤ i then F j i else 0)
      by_cases q : j ≤ i
      · rw [if_neg (by omega), if_pos q, anti j i q hi]
      · rw [if_pos (by omega), if_neg q]; grind
    rw [this]
    grind
  rw [e, split, first, second]
  grind
theorem setc_same (A : Nat → Nat → Rat) (c : Nat) : setc A c (fun r => A r c) = A := by
  funext r k
  unfold setc
  split
  · rename_i h; rw [h]
  · rfl
theorem setc_comm (A : Nat → Nat → Rat) {c d : Nat} (h : c ≠ d) (u w : Nat → Rat) : setc (setc A c u) d w = setc (setc A d w) c u := by
  funext r k
  unfold setc
  by_cases h1 : k = d
  · rw [if_pos h1, if_neg (by omega), if_pos h1]
  · rw [if_neg h1]
    by_cases h2 : k = c
    · rw [if_pos h2, if_pos h2]
    · rw [if_neg h2, if_neg h2, if_neg h1]
/-- two columns alike -/
theorem det_alike : ∀ {n : Nat} {A : Nat → Nat → Rat} {p q : Nat}, p < q → q < n → (∀ r, r < n → A r p = A r q) → det n A = 0
  | 0, _, _, _, _, h, _ => by omega
  | n + 1, A, p + 1, 0, h, _, _ => by omega
  | n + 1, A, p + 1, q + 1, hpq, hq, h => by
    rw [det]
    refine sm_zero fun i _ => ?_
    rw [det_alike (A := mn i A) (p := p) (q := q) (by omega) (by omega) fun r hr => h _ (skip_lt hr)]
    grind
  | n + 1, A, 0, 0, h, _, _ => by omega
  | n + 1, A, 0, 1, _, hq, h => by
    cases n with
    | zero => omega
    | succ n => exact det_two h
  | n + 1, A, 0, q + 2, _, hq, h => by
    cases n with
    | zero => omega
    | succ n =>
      -- the columns 1 and q + 2 change places: the sign changes, and then the first two are alike
      have swap : ∀ u w : Nat → Rat, det (n + 2) (setc (setc A 1 u) (q + 2) w) = - det (n + 2) (setc (setc A 1 w) (q + 2) u) := fun u w => by
        have zz : ∀ x : Nat → Rat, det (n + 2) (setc (setc A 1 x) (q + 2) x) = 0 := fun x => by
          rw [det]
          refine sm_zero fun i _ => ?_
          have : det (n + 1) (mn i (setc (setc A 1 x) (q + 2) x)) = 0 := det_alike (p := 0) (q := q + 1) (by omega) (by omega) fun r _ => by
            unfold mn setc
            rw [if_neg (show ¬ 0 + 1 = q + 2 by omega), if_pos (show 0 + 1 = 1 by omega), if_pos (show q + 1 + 1 = q + 2 by omega)]
          rw [this]
          grind
        have h0 := zz fun r => 1 * u r + 1 * w r
        rw [det_lin _ (show q + 2 < n + 2 by omega) 1 1 u w] at h0
        rw [setc_comm A (show 1 ≠ q + 2 by omega), setc_comm A (show 1 ≠ q + 2 by omega), det_lin _ (show 1 < n + 2 by omega) 1 1 u w, det_lin _ (show 1 < n + 2 by omega) 1 1 u w] at h0
        rw [← setc_comm A (show 1 ≠ q + 2 by omega), ← setc_comm A (show 1 ≠ q + 2 by omega), ← setc_comm A (show 1 ≠ q + 2 by omega), ← setc_comm A (show 1 ≠ q + 2 by omega), zz u, zz w] at h0
        grind
      have e : A = setc (setc A 1 fun r => A r 1) (q + 2) fun r => A r (q + 2) := by rw [setc_same, setc_same]
      rw [e, swap, det_two (A := setc (setc A 1 fun r => A r (q + 2)) (q + 2) fun r => A r 1) fun r hr => ?_]
      · grind
      · unfold setc
        rw [if_neg (by omega), if_neg (by omega), if_neg (by omega), if_pos rfl]
        exact h r hr
/-- Cramer: a column that is a sum of the columns -/
theorem cramer {n : Nat} {A : Nat → Nat → Rat} {y b : Nat → Rat} (h : ∀ r, r < n → (sm n fun c => y c * A r c) = b r) {p : Nat} (hp : p < n) : det n (setc A p b) = y p * det n A := by
  have lin : ∀ m, m ≤ n → det n (setc A p fun r => sm m fun c => y c * A r c) = sm m fun c => y c * det n (setc A p fun r => A r c) := fun m => by
    induction m with
    | zero => intro _; exact det_zero A hp fun r _ => rfl
    | succ m ih =>
      intro hm
      have h1 := det_lin A hp 1 (y m) (fun r => sm m fun c => y c * A r c) fun r => A r m
      have h2 : det n (setc A p fun r => 1 * (sm m fun c => y c * A r c) + y m * A r m) = det n (setc A p fun r => sm (m + 1) fun c => y c * A r c) := det_congr fun r k _ _ => by
        unfold setc
        split
        · show 1 * (sm m fun c => y c * A r c) + y m * A r m = (sm m fun c => y c * A r c) + y m * A r m
          grind
        · rfl
      rw [h2, ih (by omega)] at h1
      rw [h1, sm]
      grind
  have e : det n (setc A p b) = det n (setc A p fun r => sm n fun c => y c * A r c) := det_congr fun r k hr _ => by
    unfold setc
    split
    · exact (h r hr).symm
    · rfl
  rw [e, lin n (Nat.le_refl n), sm_one hp fun c hc hcp => ?_, setc_same]
  have : det n (setc A p fun r => A r c) = 0 := by
    rcases Nat.lt_or_gt_of_ne hcp with q | q
    · exact det_alike (p := c) (q := p) q hp fun r _ => by
        unfold setc
        rw [if_neg (by omega), if_pos rfl]
    · exact det_alike (p := p) (q := c) q hc fun r _ => by
        unfold setc
        rw [if_pos rfl, if_neg (by omega)]
  rw [this]
  grind
/-! ### whole numbers, sizes -/
def Wh (q : Rat) : Prop := ∃ z : Int, q = z
theorem Wh.add {a b : Rat} (ha : Wh a) (hb : Wh b) : Wh (a + b) := by
  obtain ⟨x, rfl⟩ := ha
  obtain ⟨y, rfl⟩ := hb
  exact ⟨x + y, by grind⟩
theorem Wh.mul {a b : Rat} (ha : Wh a) (hb : Wh b) : Wh (a * b) := by
  obtain ⟨x, rfl⟩ := ha
  obtain ⟨y, rfl⟩ := hb
  exact ⟨x * y, by grind⟩
theorem Wh.neg {a : Rat} (ha : Wh a) : Wh (-a) := by
  obtain ⟨x, rfl⟩ := ha
  exact ⟨-x, by grind⟩
theorem Wh.zero : Wh 0 := ⟨0, rfl⟩
theorem Wh.one : Wh 1 := ⟨1, rfl⟩
theorem Wh.sm {n : Nat} {f : Nat → Rat} (h : ∀ k, k < n → Wh (f k)) : Wh (Lp.sm n f) := by
  induction n with
  | zero => exact .zero
  | succ n ih => exact (ih fun k hk => h k (by omega)).add (h n (by omega))
theorem Wh.sg : ∀ n, Wh (Lp.sg n)
  | 0 => .one
  | n + 1 => (Wh.sg n).neg
theorem Wh.det : ∀ {n : Nat} {A : Nat → Nat → Rat}, (∀ r c, r < n → c < n → Wh (A r c)) → Wh (Lp.det n A)
  | 0, _, _ => .one
  | n + 1, A, h => Wh.sm fun i hi => ((Wh.sg i).mul (h i 0 hi (by omega))).mul (Wh.det fun r c hr hc => h _ _ (skip_lt hr) (by omega))
end Lp

namespace Lp
/-- at most so far from 0 -/
def At (b x : Rat) : Prop := -b ≤ x ∧ x ≤ b
theorem At.nn {b x : Rat} (h : At b x) : 0 ≤ b := by
  unfold At at h
  grind
theorem At.add {a b x y : Rat} (hx : At a x) (hy : At b y) : At (a + b) (x + y) := by
  unfold At at *
  grind
theorem At.neg {a x : Rat} (hx : At a x) : At a (-x) := by
  unfold At at *
  grind
theorem mul_nn {a b : Rat} (ha : 0 ≤ a) (hb : 0 ≤ b) : 0 ≤ a * b := Rat.mul_nonneg ha hb
theorem At.mul {a b x y : Rat} (hx : At a x) (hy : At b y) : At (a * b) (x * y) := by
  have ha := hx.nn
  have hb := hy.nn
  unfold At at *
  obtain ⟨x1, x2⟩ := hx
  obtain ⟨y1, y2⟩ := hy
  have p1 := mul_nn (show 0 ≤ a + x by grind) (show 0 ≤ b - y by grind)
  have p2 := mul_nn (show 0 ≤ a - x by grind) (show 0 ≤ b + y by grind)
  have p3 := mul_nn (show 0 ≤ a + x by grind) (show 0 ≤ b + y by grind)
  have p4 := mul_nn (show 0 ≤ a - x by grind) (show 0 ≤ b - y by grind)
  constructor
  · grind
  · grind
theorem At.sm {n : Nat} {f : Nat → Rat} {b : Rat} (h : ∀ k, k < n → At b (f k)) : At ((n : Rat) * b) (Lp.sm n f) := by
  induction n with
  | zero => unfold At; simp only [Lp.sm]; grind
  | succ n ih =>
    have h1 := (ih fun k hk => h k (by omega)).add (h n (by omega))
    have e : ((n : Rat) * b + b) = ((n + 1 : Nat) : Rat) * b := by
      have : ((n + 1 : Nat) : Rat) = (n : Rat) + 1 := by push_cast; rfl
      rw [this]; grind
    rw [← e]
    exact h1
def dB (M : Rat) : Nat → Rat
  | 0 => 1
  | n + 1 => ((n + 1 : Nat) : Rat) * (M * dB M n)
theorem At.sg {b x : Rat} (h : At b x) : ∀ n, At b (Lp.sg n * x)
  | 0 => by show At b (1 * x); rw [Rat.one_mul]; exact h
  | n + 1 => by
    have := (At.sg h n).neg
    show At b (- Lp.sg n * x)
    have e : - Lp.sg n * x = -(Lp.sg n * x) := by grind
    rw [e]
    exact this
theorem det_at {M : Rat} : ∀ {n : Nat} {A : Nat → Nat → Rat}, (∀ r c, r < n → c < n → At M (A r c)) → At (dB M n) (det n A)
  | 0, _, _ => by
    show At 1 1
    unfold At
    grind
  | n + 1, A, h => At.sm fun i hi => by
    have e : Lp.sg i * A i 0 * det n (mn i A) = Lp.sg i * (A i 0 * det n (mn i A)) := by grind
    rw [e]
    exact ((h i 0 hi (by omega)).mul (det_at fun r c hr hc => h _ _ (skip_lt hr) (by omega))).sg i
end Lp

namespace Lp
/-! ### a tableau: den * v (be i) = T i 0 + the sum of T i (k + 1) * v (ta k), for each row i -/
structure Tu where
  den : Rat
  be : Nat → Nat
  ta : Nat → Nat
  T : Nat → Nat → Rat
  G : Nat → Rat
def upd (f : Nat → Nat) (i x : Nat) : Nat → Nat := fun k => if k = i then x else f k
/-- the head of row i and the top p change places -/
def Tu.piv (t : Tu) (i p : Nat) : Tu where
  den := t.T i (p + 1)
  be := upd t.be i (t.ta p)
  ta := upd t.ta p (t.be i)
  T := fun r k => if r = i then (if k = p + 1 then t.den else - t.T i k) else if k = p + 1 then t.T r (p + 1) else (t.T r k * t.T i (p + 1) - t.T r (p + 1) * t.T i k) / t.den
  G := fun k => if k = p + 1 then t.G (p + 1) else (t.G k * t.T i (p + 1) - t.G (p + 1) * t.T i k) / t.den
def Tu.neg (t : Tu) : Tu where
  den := - t.den
  be := t.be
  ta := t.ta
  T := fun r k => - t.T r k
  G := fun k => - t.G k
/-- C r x: the factor of the variable x in the equation r; a r: its right side -/
structure Sys where
  m : Nat
  n : Nat
  C : Nat → Nat → Rat
  a : Nat → Rat
def Tu.bas (t : Tu) (S : Sys) : Nat → Nat → Rat := fun r i => S.C r (t.be i)
/-- how the columns hang together -/
structure Hang (S : Sys) (t : Tu) : Prop where
  d0 : t.den ≠ 0
  det : det S.m (t.bas S) = t.den ∨ det S.m (t.bas S) = - t.den
  top : ∀ r, r < S.m → ∀ k, k < S.n → (sm S.m fun i => t.T i (k + 1) * S.C r (t.be i)) = - t.den * S.C r (t.ta k)
  con : ∀ r, r < S.m → (sm S.m fun i => t.T i 0 * S.C r (t.be i)) = t.den * S.a r
theorem sm_split {m i : Nat} (hi : i < m) (f : Nat → Rat) : sm m f = (sm m fun k => if k = i then 0 else f k) + f i := by
  have h : sm m f = sm m fun k => (if k = i then 0 else f k) + (if k = i then f i else 0) := sm_congr fun k _ => by
    split
    · rename_i e; rw [e]; grind
    · grind
  rw [h, sm_add, sm_one (p := i) (f := fun k => if k = i then f i else 0) hi fun k _ hk => if_neg hk, if_pos rfl]
theorem Hang.neg {S : Sys} {t : Tu} (h : Hang S t) : Hang S t.neg := by
  refine ⟨fun z => h.d0 ?_, ?_, fun r hr k hk => ?_, fun r hr => ?_⟩
  · have z : - t.den = 0 := z
    grind
  · have e : t.neg.bas S = t.bas S := rfl
    have d : t.neg.den = - t.den := rfl
    rw [e, d]
    rcases h.det with q | q
    · exact .inr (by rw [q]; grind)
    · exact .inl q
  · have := h.top r hr k hk
    show (sm S.m fun i => - t.T i (k + 1) * S.C r (t.be i)) = - (- t.den) * S.C r (t.ta k)
    have e : (sm S.m fun i => - t.T i (k + 1) * S.C r (t.be i)) = sm S.m fun i => - (t.T i (k + 1) * S.C r (t.be i)) := sm_congr fun i _ => by grind
    rw [e, sm_neg, this]
    grind
  · have := h.con r hr
    show (sm S.m fun i => - t.T i 0 * S.C r (t.be i)) = - t.den * S.a r
    have e : (sm S.m fun i => - t.T i 0 * S.C r (t.be i)) = sm S.m fun i => - (t.T i 0 * S.C r (t.be i)) := sm_congr fun i _ => by grind
    rw [e, sm_neg, this]
    grind
theorem Hang.piv {S : Sys} {t : Tu} (h : Hang S t) {i p : Nat} (hi : i < S.m) (hp : p < S.n) (by0 : t.T i (p + 1) ≠ 0) : Hang S (t.piv i p) := by
  have d0 := h.d0
  -- a column of the new tableau that is put together of two old ones
  have mix : ∀ (k : Nat) (x : Rat) (r : Nat), r < S.m → k ≠ p + 1 → (sm S.m fun j => t.T j k * S.C r (t.be j)) = x →
      (sm S.m fun j => (t.piv i p).T j k * S.C r ((t.piv i p).be j)) = t.T i (p + 1) / t.den * x := fun k x r hr hk hx => by
    have hP := h.top r hr p hp
    rw [sm_split hi] at hx hP ⊢
    have e1 : (t.piv i p).T i k * S.C r ((t.piv i p).be i) = - t.T i k * S.C r (t.ta p) := by
      show (if i = i then (if k = p + 1 then t.den else - t.T i k) else _) * S.C r (upd t.be i (t.ta p) i) = _
      unfold upd
      rw [if_pos rfl, if_pos rfl, if_neg hk]
    have e2 : (sm S.m fun j => if j = i then 0 else (t.piv i p).T j k * S.C r ((t.piv i p).be j)) = t.T i (p + 1) / t.den * (sm S.m fun j => if j = i then 0 else t.T j k * S.C r (t.be j)) - t.T i k / t.den * (sm S.m fun j => if j = i then 0 else t.T j (p + 1) * S.C r (t.be j)) := by
      rw [← sm_mul, ← sm_mul, ← sm_sub]
      refine sm_congr fun j _ => ?_
      by_cases hj : j = i
      · rw [if_pos hj, if_pos hj, if_pos hj]; grind
      · rw [if_neg hj, if_neg hj, if_neg hj]
        show (if j = i then _ else if k = p + 1 then _ else (t.T j k * t.T i (p + 1) - t.T j (p + 1) * t.T i k) / t.den) * S.C r (upd t.be i (t.ta p) j) = _
        unfold upd
        rw [if_neg hj, if_neg hk, if_neg hj, Rat.div_def, Rat.div_def, Rat.div_def]
        grind
    rw [e1, e2]
    have x1 : (sm S.m fun j => if j = i then 0 else t.T j k * S.C r (t.be j)) = x - t.T i k * S.C r (t.be i) := by grind
    have x2 : (sm S.m fun j => if j = i then 0 else t.T j (p + 1) * S.C r (t.be j)) = - t.den * S.C r (t.ta p) - t.T i (p + 1) * S.C r (t.be i) := by grind
    rw [x1, x2]
    have q : t.den * t.den⁻¹ = 1 := Rat.mul_inv_cancel _ d0
    rw [Rat.div_def, Rat.div_def]
    grind
  refine ⟨by0, ?_, fun r hr k hk => ?_, fun r hr => ?_⟩
  · -- the determinant
    have c := cramer (n := S.m) (A := t.bas S) (y := fun j => - t.T j (p + 1) / t.den) (b := fun r => S.C r (t.ta p)) (fun r hr => by
      have hP := h.top r hr p hp
      have e : (sm S.m fun c => - t.T c (p + 1) / t.den * t.bas S r c) = (- 1 / t.den) * sm S.m fun c => t.T c (p + 1) * S.C r (t.be c) := by
        rw [← sm_mul]
        refine sm_congr fun c _ => ?_
        show - t.T c (p + 1) / t.den * S.C r (t.be c) = _
        rw [Rat.div_def, Rat.div_def]
        grind
      rw [e, hP, Rat.div_def]
      have q : t.den * t.den⁻¹ = 1 := Rat.mul_inv_cancel _ d0
      grind) hi
    have e : (t.piv i p).bas S = setc (t.bas S) i fun r => S.C r (t.ta p) := by
      funext r j
      show S.C r (upd t.be i (t.ta p) j) = if j = i then S.C r (t.ta p) else S.C r (t.be j)
      unfold upd
      split <;> rfl
    rw [e, c]
    show - t.T i (p + 1) / t.den * _ = t.T i (p + 1) ∨ - t.T i (p + 1) / t.den * _ = - t.T i (p + 1)
    have q : t.den * t.den⁻¹ = 1 := Rat.mul_inv_cancel _ d0
    rw [Rat.div_def]
    rcases h.det with z | z
    · exact .inr (by rw [z]; grind)
    · exact .inl (by rw [z]; grind)
  · by_cases hk2 : k = p
    · subst hk2
      have hP := h.top r hr k hk
      rw [sm_split hi] at hP ⊢
      have e1 : (t.piv i k).T i (k + 1) * S.C r ((t.piv i k).be i) = t.den * S.C r (t.ta k) := by
        show (if i = i then (if k + 1 = k + 1 then t.den else _) else _) * S.C r (upd t.be i (t.ta k) i) = _
        unfold upd
        rw [if_pos rfl, if_pos rfl, if_pos rfl]
      have e2 : (sm S.m fun j => if j = i then 0 else (t.piv i k).T j (k + 1) * S.C r ((t.piv i k).be j)) = sm S.m fun j => if j = i then 0 else t.T j (k + 1) * S.C r (t.be j) := sm_congr fun j _ => by
        by_cases hj : j = i
        · rw [if_pos hj, if_pos hj]
        · rw [if_neg hj, if_neg hj]
          show (if j = i then _ else if k + 1 = k + 1 then t.T j (k + 1) else _) * S.C r (upd t.be i (t.ta k) j) = _
          unfold upd
          rw [if_neg hj, if_pos rfl, if_neg hj]
      have e3 : (t.piv i k).ta k = t.be i := by
        show upd t.ta k (t.be i) k = _
        unfold upd
        rw [if_pos rfl]
      have e4 : (t.piv i k).den = t.T i (k + 1) := rfl
      rw [e1, e2, e3, e4]
      grind
    · rw [mix (k + 1) _ r hr (by omega) (h.top r hr k hk)]
      have e3 : (t.piv i p).ta k = t.ta k := by
        show upd t.ta p (t.be i) k = _
        unfold upd
        rw [if_neg hk2]
      have e4 : (t.piv i p).den = t.T i (p + 1) := rfl
      have q : t.den * t.den⁻¹ = 1 := Rat.mul_inv_cancel _ d0
      rw [e3, e4, Rat.div_def]
      grind
  · rw [mix 0 _ r hr (by omega) (h.con r hr)]
    have e4 : (t.piv i p).den = t.T i (p + 1) := rfl
    have q : t.den * t.den⁻¹ = 1 := Rat.mul_inv_cancel _ d0
    rw [e4, Rat.div_def]
    grind
/-- the numbers are determinants, so whole, and not too great -/
theorem Hang.whole {S : Sys} {t : Tu} (h : Hang S t) (hC : ∀ r x, r < S.m → Wh (S.C r x)) (ha : ∀ r, r < S.m → Wh (S.a r)) : Wh t.den ∧ ∀ i k, i < S.m → k < S.n + 1 → Wh (t.T i k) := by
  have d0 := h.d0
  have q : t.den * t.den⁻¹ = 1 := Rat.mul_inv_cancel _ d0
  have hd : Wh (Lp.det S.m (t.bas S)) := Wh.det fun r c hr _ => hC r _ hr
  refine ⟨?_, fun i k hi hk => ?_⟩
  · rcases h.det with z | z
    · rw [← z]; exact hd
    · have : t.den = - Lp.det S.m (t.bas S) := by grind
      rw [this]; exact hd.neg
  · -- by Cramer
    have go : ∀ (b : Nat → Rat) (y : Nat → Rat), (∀ r, r < S.m → Wh (b r)) → (∀ r, r < S.m → (sm S.m fun c => y c * t.bas S r c) = b r) → Wh (y i * t.den) := fun b y hb hy => by
      have c := cramer hy hi
      have w : Wh (Lp.det S.m (setc (t.bas S) i b)) := Wh.det fun r c hr _ => by
        unfold setc
        split
        · exact hb r hr
        · exact hC r _ hr
      rw [c] at w
      rcases h.det with z | z
      · rw [z] at w; exact w
      · rw [z] at w
        have e : y i * t.den = -(y i * - t.den) := by grind
        rw [e]; exact w.neg
    cases k with
    | zero =>
      have := go S.a (fun c => t.T c 0 / t.den) ha fun r hr => by
        have e : (sm S.m fun c => t.T c 0 / t.den * t.bas S r c) = (1 / t.den) * sm S.m fun c => t.T c 0 * S.C r (t.be c) := by
          rw [← sm_mul]
          refine sm_congr fun c _ => ?_
          show t.T c 0 / t.den * S.C r (t.be c) = _
          rw [Rat.div_def, Rat.div_def]
          grind
        rw [e, h.con r hr, Rat.div_def]
        grind
      have e : t.T i 0 / t.den * t.den = t.T i 0 := by rw [Rat.div_def]; grind
      rw [← e]
      exact this
    | succ k =>
      have := go (fun r => - S.C r (t.ta k)) (fun c => t.T c (k + 1) / t.den) (fun r hr => (hC r _ hr).neg) fun r hr => by
        have e : (sm S.m fun c => t.T c (k + 1) / t.den * t.bas S r c) = (1 / t.den) * sm S.m fun c => t.T c (k + 1) * S.C r (t.be c) := by
          rw [← sm_mul]
          refine sm_congr fun c _ => ?_
          show t.T c (k + 1) / t.den * S.C r (t.be c) = _
          rw [Rat.div_def, Rat.div_def]
          grind
        rw [e, h.top r hr k (by omega), Rat.div_def]
        grind
      have e : t.T i (k + 1) / t.den * t.den = t.T i (k + 1) := by rw [Rat.div_def]; grind
      rw [← e]
      exact this
theorem Hang.size {S : Sys} {t : Tu} {M : Rat} (h : Hang S t) (hC : ∀ r x, r < S.m → At M (S.C r x)) (ha : ∀ r, r < S.m → At M (S.a r)) : At (dB M S.m) t.den ∧ ∀ i k, i < S.m → k < S.n + 1 → At (dB M S.m) (t.T i k) := by
  have d0 := h.d0
  have q : t.den * t.den⁻¹ = 1 := Rat.mul_inv_cancel _ d0
  have hd : At (dB M S.m) (Lp.det S.m (t.bas S)) := det_at fun r c hr _ => hC r _ hr
  refine ⟨?_, fun i k hi hk => ?_⟩
  · rcases h.det with z | z
    · rw [← z]; exact hd
    · have : t.den = - Lp.det S.m (t.bas S) := by grind
      rw [this]; exact hd.neg
  · have go : ∀ (b : Nat → Rat) (y : Nat → Rat), (∀ r, r < S.m → At M (b r)) → (∀ r, r < S.m → (sm S.m fun c => y c * t.bas S r c) = b r) → At (dB M S.m) (y i * t.den) := fun b y hb hy => by
      have c := cramer hy hi
      have w : At (dB M S.m) (Lp.det S.m (setc (t.bas S) i b)) := det_at fun r c hr _ => by
        unfold setc
        split
        · exact hb r hr
        · exact hC r _ hr
      rw [c] at w
      rcases h.det with z | z
      · rw [z] at w; exact w
      · rw [z] at w
        have e : y i * t.den = -(y i * - t.den) := by grind
        rw [e]; exact w.neg
    cases k with
    | zero =>
      have := go S.a (fun c => t.T c 0 / t.den) ha fun r hr => by
        have e : (sm S.m fun c => t.T c 0 / t.den * t.bas S r c) = (1 / t.den) * sm S.m fun c => t.T c 0 * S.C r (t.be c) := by
          rw [← sm_mul]
          refine sm_congr fun c _ => ?_
          show t.T c 0 / t.den * S.C r (t.be c) = _
          rw [Rat.div_def, Rat.div_def]
          grind
        rw [e, h.con r hr, Rat.div_def]
        grind
      have e : t.T i 0 / t.den * t.den = t.T i 0 := by rw [Rat.div_def]; grind
      rw [← e]
      exact this
    | succ k =>
      have := go (fun r => - S.C r (t.ta k)) (fun c => t.T c (k + 1) / t.den) (fun r hr => (hC r _ hr).neg) fun r hr => by
        have e : (sm S.m fun c => t.T c (k + 1) / t.den * t.bas S r c) = (1 / t.den) * sm S.m fun c => t.T c (k + 1) * S.C r (t.be c) := by
          rw [← sm_mul]
          refine sm_congr fun c _ => ?_
          show t.T c (k + 1) / t.den * S.C r (t.be c) = _
          rw [Rat.div_def, Rat.div_def]
          grind
        rw [e, h.top r hr k (by omega), Rat.div_def]
        grind
      have e : t.T i (k + 1) / t.den * t.den = t.T i (k + 1) := by rw [Rat.div_def]; grind
      rw [← e]
      exact this
end Lp

namespace Lp
/-! ### what a tableau says -/
def Sol (S : Sys) (t : Tu) (v : Nat → Rat) : Prop := ∀ r, r < S.m → (sm S.m fun i => v (t.be i) * S.C r (t.be i)) + (sm S.n fun k => v (t.ta k) * S.C r (t.ta k)) = S.a r
def Says (S : Sys) (t : Tu) (v : Nat → Rat) : Prop := ∀ i, i < S.m → t.den * v (t.be i) = t.T i 0 + sm S.n fun k => t.T i (k + 1) * v (t.ta k)
theorem Hang.says {S : Sys} {t : Tu} (h : Hang S t) (v : Nat → Rat) : Sol S t v ↔ Says S t v := by
  have d0 := h.d0
  have q : t.den * t.den⁻¹ = 1 := Rat.mul_inv_cancel _ d0
  -- the tableau's rows, with the columns
  have key : ∀ r, r < S.m → (sm S.m fun i => (t.T i 0 + sm S.n fun k => t.T i (k + 1) * v (t.ta k)) * S.C r (t.be i)) = t.den * S.a r - t.den * sm S.n fun k => v (t.ta k) * S.C r (t.ta k) := fun r hr => by
    have e : (sm S.m fun i => (t.T i 0 + sm S.n fun k => t.T i (k + 1) * v (t.ta k)) * S.C r (t.be i)) = (sm S.m fun i => t.T i 0 * S.C r (t.be i)) + sm S.m fun i => sm S.n fun k => v (t.ta k) * (t.T i (k + 1) * S.C r (t.be i)) := by
      rw [← sm_add]
      refine sm_congr fun i _ => ?_
      have : (sm S.n fun k => v (t.ta k) * (t.T i (k + 1) * S.C r (t.be i))) = S.C r (t.be i) * sm S.n fun k => t.T i (k + 1) * v (t.ta k) := by
        rw [← sm_mul]
        exact sm_congr fun k _ => by grind
      rw [this]
      grind
    rw [e, h.con r hr, sm_swap]
    have e2 : (sm S.n fun k => sm S.m fun i => v (t.ta k) * (t.T i (k + 1) * S.C r (t.be i))) = - t.den * sm S.n fun k => v (t.ta k) * S.C r (t.ta k) := by
      rw [← sm_mul]
      refine sm_congr fun k hk => ?_
      rw [sm_mul, h.top r hr k hk]
      grind
    rw [e2]
    grind
  constructor
  · intro hs i hi
    -- the difference is 0, by Cramer
    have c := cramer (n := S.m) (A := t.bas S) (y := fun i => t.den * v (t.be i) - (t.T i 0 + sm S.n fun k => t.T i (k + 1) * v (t.ta k))) (b := fun _ => 0) (fun r hr => by
      have e : (sm S.m fun c => (t.den * v (t.be c) - (t.T c 0 + sm S.n fun k => t.T c (k + 1) * v (t.ta k))) * t.bas S r c) = t.den * (sm S.m fun i => v (t.be i) * S.C r (t.be i)) - sm S.m fun i => (t.T i 0 + sm S.n fun k => t.T i (k + 1) * v (t.ta k)) * S.C r (t.be i) := by
        rw [← sm_mul, ← sm_sub]
        refine sm_congr fun c _ => ?_
        show (t.den * v (t.be c) - _) * S.C r (t.be c) = _
        grind
      rw [e, key r hr]
      have := hs r hr
      grind) hi
    rw [det_zero _ hi fun _ _ => rfl] at c
    have hd : Lp.det S.m (t.bas S) ≠ 0 := by
      rcases h.det with z | z <;> rw [z] <;> grind
    have z : t.den * v (t.be i) - (t.T i 0 + sm S.n fun k => t.T i (k + 1) * v (t.ta k)) = 0 := by
      rcases Rat.mul_eq_zero.mp c.symm with z | z
      · exact z
      · exact absurd z hd
    grind
  · intro hs r hr
    have e : t.den * (sm S.m fun i => v (t.be i) * S.C r (t.be i)) = sm S.m fun i => (t.T i 0 + sm S.n fun k => t.T i (k + 1) * v (t.ta k)) * S.C r (t.be i) := by
      rw [← sm_mul]
      refine sm_congr fun i hi => ?_
      have := hs i hi
      grind
    rw [key r hr] at e
    have e2 : t.den * ((sm S.m fun i => v (t.be i) * S.C r (t.be i)) + (sm S.n fun k => v (t.ta k) * S.C r (t.ta k)) - S.a r) = 0 := by grind
    rcases Rat.mul_eq_zero.mp e2 with z | z
    · exact absurd z d0
    · grind
theorem sol_piv {S : Sys} {t : Tu} {i p : Nat} (hi : i < S.m) (hp : p < S.n) (v : Nat → Rat) : Sol S (t.piv i p) v ↔ Sol S t v := by
  have e : ∀ r, (sm S.m fun j => v ((t.piv i p).be j) * S.C r ((t.piv i p).be j)) + (sm S.n fun k => v ((t.piv i p).ta k) * S.C r ((t.piv i p).ta k)) = (sm S.m fun j => v (t.be j) * S.C r (t.be j)) + (sm S.n fun k => v (t.ta k) * S.C r (t.ta k)) := fun r => by
    rw [sm_split hi fun j => v ((t.piv i p).be j) * S.C r ((t.piv i p).be j), sm_split hp fun k => v ((t.piv i p).ta k) * S.C r ((t.piv i p).ta k), sm_split hi fun j => v (t.be j) * S.C r (t.be j), sm_split hp fun k => v (t.ta k) * S.C r (t.ta k)]
    have b1 : (t.piv i p).be i = t.ta p := by show upd t.be i (t.ta p) i = _; unfold upd; rw [if_pos rfl]
    have b2 : (t.piv i p).ta p = t.be i := by show upd t.ta p (t.be i) p = _; unfold upd; rw [if_pos rfl]
    have c1 : (sm S.m fun k => if k = i then 0 else v ((t.piv i p).be k) * S.C r ((t.piv i p).be k)) = sm S.m fun k => if k = i then 0 else v (t.be k) * S.C r (t.be k) := sm_congr fun k _ => by
      by_cases hk : k = i
      · rw [if_pos hk, if_pos hk]
      · rw [if_neg hk, if_neg hk]
        have : (t.piv i p).be k = t.be k := by show upd t.be i (t.ta p) k = _; unfold upd; rw [if_neg hk]
        rw [this]
    have c2 : (sm S.n fun k => if k = p then 0 else v ((t.piv i p).ta k) * S.C r ((t.piv i p).ta k)) = sm S.n fun k => if k = p then 0 else v (t.ta k) * S.C r (t.ta k) := sm_congr fun k _ => by
      by_cases hk : k = p
      · rw [if_pos hk, if_pos hk]
      · rw [if_neg hk, if_neg hk]
        have : (t.piv i p).ta k = t.ta k := by show upd t.ta p (t.be i) k = _; unfold upd; rw [if_neg hk]
        rw [this]
    rw [b1, b2, c1, c2]
    grind
  unfold Sol
  constructor
  · intro h r hr
    rw [← e r]
    exact h r hr
  · intro h r hr
    rw [e r]
    exact h r hr
theorem sol_neg {S : Sys} {t : Tu} (v : Nat → Rat) : Sol S t.neg v ↔ Sol S t v := Iff.rfl
/-! ### names -/
/-- the heads and the tops are unlike -/
structure Names (S : Sys) (t : Tu) : Prop where
  bb : ∀ i j, i < S.m → j < S.m → t.be i = t.be j → i = j
  tt : ∀ i j, i < S.n → j < S.n → t.ta i = t.ta j → i = j
  bt : ∀ i j, i < S.m → j < S.n → t.be i ≠ t.ta j
theorem Names.piv {S : Sys} {t : Tu} (h : Names S t) {i p : Nat} (hi : i < S.m) (hp : p < S.n) : Names S (t.piv i p) := by
  have b : ∀ j, (t.piv i p).be j = if j = i then t.ta p else t.be j := fun _ => rfl
  have a : ∀ j, (t.piv i p).ta j = if j = p then t.be i else t.ta j := fun _ => rfl
  refine ⟨fun j k hj hk e => ?_, fun j k hj hk e => ?_, fun j k hj hk e => ?_⟩
  · rw [b, b] at e
    by_cases h1 : j = i <;> by_cases h2 : k = i
    · omega
    · rw [if_pos h1, if_neg h2] at e; exact absurd e.symm (h.bt k p hk hp)
    · rw [if_neg h1, if_pos h2] at e; exact absurd e (h.bt j p hj hp)
    · rw [if_neg h1, if_neg h2] at e; exact h.bb j k hj hk e
  · rw [a, a] at e
    by_cases h1 : j = p <;> by_cases h2 : k = p
    · omega
    · rw [if_pos h1, if_neg h2] at e; exact absurd e (h.bt i k hi hk)
    · rw [if_neg h1, if_pos h2] at e; exact absurd e.symm (h.bt i j hi hj)
    · rw [if_neg h1, if_neg h2] at e; exact h.tt j k hj hk e
  · rw [b, a] at e
    by_cases h1 : j = i <;> by_cases h2 : k = p
    · rw [if_pos h1, if_pos h2] at e; exact absurd e.symm (h.bt i p hi hp)
    · rw [if_pos h1, if_neg h2] at e; exact h2 (h.tt p k hp hk e).symm
    · rw [if_neg h1, if_pos h2] at e; exact h1 (h.bb j i hj hi e)
    · rw [if_neg h1, if_neg h2] at e; exact h.bt j k hj hk e
theorem Names.neg {S : Sys} {t : Tu} (h : Names S t) : Names S t.neg := ⟨h.bb, h.tt, h.bt⟩
/-- the solution in which the tops are 0, but for one of them -/
def findB (S : Sys) (t : Tu) (x : Nat) : Nat → Option Nat
  | 0 => none
  | k + 1 => if t.be k = x then some k else findB S t x k
/-- v + y * d -/
def Tu.ray (S : Sys) (t : Tu) (p : Nat) (y : Rat) : Nat → Rat := fun x => match findB S t x S.m with
  | some i => (t.T i 0 + t.T i (p + 1) * y) / t.den
  | none => if x = t.ta p then y else 0
theorem findB_some {S : Sys} {t : Tu} (h : Names S t) {i : Nat} (hi : i < S.m) : findB S t (t.be i) S.m = some i := by
  have go : ∀ k, k ≤ S.m → i < k → findB S t (t.be i) k = some i := fun k => by
    induction k with
    | zero => intro _ h; omega
    | succ k ih =>
      intro hk hik
      rw [findB]
      by_cases e : t.be k = t.be i
      · rw [if_pos e, h.bb k i (by omega) hi e]
      · rw [if_neg e]
        refine ih (by omega) ?_
        rcases Nat.lt_or_ge i k with q | q
        · exact q
        · exact absurd (by rw [show k = i by omega]) e
  exact go S.m (Nat.le_refl _) hi
theorem findB_none {S : Sys} {t : Tu} {x : Nat} (h : ∀ i, i < S.m → t.be i ≠ x) : findB S t x S.m = none := by
  have go : ∀ k, k ≤ S.m → findB S t x k = none := fun k => by
    induction k with
    | zero => intro _; rfl
    | succ k ih =>
      intro hk
      rw [findB, if_neg (h k (by omega)), ih (by omega)]
  exact go S.m (Nat.le_refl _)
theorem ray_be {S : Sys} {t : Tu} (h : Names S t) {i p : Nat} {y : Rat} (hi : i < S.m) : t.ray S p y (t.be i) = (t.T i 0 + t.T i (p + 1) * y) / t.den := by
  unfold Tu.ray
  rw [findB_some h hi]
theorem ray_ta {S : Sys} {t : Tu} (h : Names S t) {j p : Nat} {y : Rat} (hj : j < S.n) (hp : p < S.n) : t.ray S p y (t.ta j) = if j = p then y else 0 := by
  unfold Tu.ray
  rw [findB_none fun i hi => h.bt i j hi hj]
  show (if t.ta j = t.ta p then y else 0) = _
  by_cases e : j = p
  · rw [if_pos e, if_pos (by rw [e])]
  · rw [if_neg e, if_neg fun z => e (h.tt j p hj hp z)]
theorem ray_says {S : Sys} {t : Tu} (h : Names S t) (d0 : t.den ≠ 0) {p : Nat} (hp : p < S.n) (y : Rat) : Says S t (t.ray S p y) := fun i hi => by
  have q : t.den * t.den⁻¹ = 1 := Rat.mul_inv_cancel _ d0
  rw [ray_be h hi, sm_one hp fun k hk hkp => ?_, ray_ta h hp hp, if_pos rfl, Rat.div_def]
  · grind
  · rw [ray_ta h hk hp, if_neg hkp]; grind
/-- the basic solution -/
def Tu.val (S : Sys) (t : Tu) : Nat → Rat := fun x => match findB S t x S.m with
  | some i => t.T i 0 / t.den
  | none => 0
theorem val_be {S : Sys} {t : Tu} (h : Names S t) {i : Nat} (hi : i < S.m) : t.val S (t.be i) = t.T i 0 / t.den := by
  unfold Tu.val
  rw [findB_some h hi]
theorem val_ta {S : Sys} {t : Tu} (h : Names S t) {j : Nat} (hj : j < S.n) : t.val S (t.ta j) = 0 := by
  unfold Tu.val
  rw [findB_none fun i hi => h.bt i j hi hj]
theorem val_no {S : Sys} {t : Tu} {x : Nat} (h : ∀ i, i < S.m → t.be i ≠ x) : t.val S x = 0 := by
  unfold Tu.val
  rw [findB_none h]
theorem val_says {S : Sys} {t : Tu} (h : Names S t) (d0 : t.den ≠ 0) : Says S t (t.val S) := fun i hi => by
  have q : t.den * t.den⁻¹ = 1 := Rat.mul_inv_cancel _ d0
  rw [val_be h hi, sm_zero fun k hk => ?_, Rat.div_def]
  · grind
  · rw [val_ta h hk]; grind
end Lp

namespace Lp
/-! ### Bland's rule ends -/
/-- a state of the walk: row 0 is the goal -/
structure St (S : Sys) (t : Tu) : Prop where
  h : Hang S t
  nm : Names S t
  pos : 0 < t.den
  feas : ∀ i, 1 ≤ i → i < S.m → 0 ≤ t.T i 0
  m1 : 1 ≤ S.m
/-- one step: the top at place p comes in, the head of row l goes out -/
structure Step (S : Sys) (t : Tu) (l p : Nat) : Prop where
  p1 : p < S.n
  fall : t.T 0 (p + 1) < 0
  least : ∀ j, j < S.n → t.T 0 (j + 1) < 0 → t.ta p ≤ t.ta j
  l0 : 1 ≤ l
  l1 : l < S.m
  by0 : t.T l (p + 1) < 0
  ratio : ∀ i, 1 ≤ i → i < S.m → t.T i (p + 1) < 0 → t.T l 0 * - t.T i (p + 1) ≤ t.T i 0 * - t.T l (p + 1)
  tie : ∀ i, 1 ≤ i → i < S.m → t.T i (p + 1) < 0 → t.T l 0 * - t.T i (p + 1) = t.T i 0 * - t.T l (p + 1) → t.be l ≤ t.be i
def Tu.next (t : Tu) (l p : Nat) : Tu := (t.piv l p).neg
theorem inv_pos {d : Rat} (h : 0 < d) : 0 < d⁻¹ := Rat.inv_pos.mpr h
section
variable {S : Sys} {t : Tu} {l p : Nat}
theorem next_T (i k : Nat) : (t.next l p).T i k = if i = l then (if k = p + 1 then - t.den else t.T l k) else if k = p + 1 then - t.T i (p + 1) else - ((t.T i k * t.T l (p + 1) - t.T i (p + 1) * t.T l k) / t.den) := by
  show - (if i = l then (if k = p + 1 then t.den else - t.T l k) else if k = p + 1 then t.T i (p + 1) else (t.T i k * t.T l (p + 1) - t.T i (p + 1) * t.T l k) / t.den) = _
  split
  · split
    · rfl
    · grind
  · split <;> rfl
theorem next_den : (t.next l p).den = - t.T l (p + 1) := rfl
theorem next_be (i : Nat) : (t.next l p).be i = if i = l then t.ta p else t.be i := rfl
theorem St.next (s : St S t) (st : Step S t l p) : St S (t.next l p) := by
  have d0 := s.pos
  have b0 := st.by0
  have ip := inv_pos d0
  refine ⟨(s.h.piv st.l1 st.p1 (by grind)).neg, (s.nm.piv st.l1 st.p1).neg, by rw [next_den]; grind, fun i i1 im => ?_, s.m1⟩
  rw [next_T]
  have fl := s.feas l st.l0 st.l1
  have fi := s.feas i i1 im
  by_cases e : i = l
  · rw [if_pos e, if_neg (by omega)]; exact fl
  · rw [if_neg e, if_neg (by omega), Rat.div_def]
    have key : 0 ≤ - (t.T i 0 * t.T l (p + 1) - t.T i (p + 1) * t.T l 0) := by
      by_cases q : t.T i (p + 1) < 0
      · have := st.ratio i i1 im q
        grind
      · have h1 := mul_nn fi (show 0 ≤ - t.T l (p + 1) by grind)
        have h2 := mul_nn (show 0 ≤ t.T i (p + 1) by grind) fl
        grind
    have := mul_nn key (Rat.le_of_lt ip)
    grind
theorem sol_next (st : Step S t l p) (v : Nat → Rat) : Sol S (t.next l p) v ↔ Sol S t v := (sol_neg v).trans (sol_piv st.l1 st.p1 v)
def zv (t : Tu) : Rat := t.T 0 0 / t.den
theorem zv_next (s : St S t) (st : Step S t l p) : zv (t.next l p) ≤ zv t ∧ (zv (t.next l p) = zv t → t.T l 0 = 0) := by
  have d0 := s.pos
  have b0 := st.by0
  have fl := s.feas l st.l0 st.l1
  have hf := st.fall
  have ip := inv_pos d0
  have ib := inv_pos (show 0 < - t.T l (p + 1) by grind)
  have q : t.den * t.den⁻¹ = 1 := Rat.mul_inv_cancel _ (by grind)
  have qb : - t.T l (p + 1) * (- t.T l (p + 1))⁻¹ = 1 := Rat.mul_inv_cancel _ (by grind)
  have e : zv t - zv (t.next l p) = (- t.T 0 (p + 1)) * t.T l 0 * (t.den⁻¹ * (- t.T l (p + 1))⁻¹) := by
    unfold zv
    rw [next_T, next_den, if_neg (by have := st.l0; omega), if_neg (by omega), Rat.div_def, Rat.div_def, Rat.div_def]
    generalize (- t.T l (p + 1))⁻¹ = B at *
    generalize t.den⁻¹ = D at *
    grind
  have pp : 0 < t.den⁻¹ * (- t.T l (p + 1))⁻¹ := Rat.mul_pos ip ib
  constructor
  · have := mul_nn (mul_nn (show 0 ≤ - t.T 0 (p + 1) by grind) fl) (Rat.le_of_lt pp)
    grind
  · intro z
    have z2 : (- t.T 0 (p + 1)) * t.T l 0 * (t.den⁻¹ * (- t.T l (p + 1))⁻¹) = 0 := by grind
    rcases Rat.mul_eq_zero.mp z2 with z3 | z3
    · rcases Rat.mul_eq_zero.mp z3 with z4 | z4
      · grind
      · exact z4
    · grind
/-- where nothing falls, nothing moves -/
theorem val_next (s : St S t) (st : Step S t l p) (z : t.T l 0 = 0) (x : Nat) : (t.next l p).val S x = t.val S x := by
  have nm' := (s.next st).nm
  have d0 := s.pos
  have q : t.den * t.den⁻¹ = 1 := Rat.mul_inv_cancel _ (by grind)
  have b0 := st.by0
  have qb : - t.T l (p + 1) * (- t.T l (p + 1))⁻¹ = 1 := Rat.mul_inv_cancel _ (by grind)
  by_cases h : ∃ i, i < S.m ∧ (t.next l p).be i = x
  · obtain ⟨i, hi, rfl⟩ := h
    rw [val_be nm' hi]
    by_cases e : i = l
    · have e1 : (t.next l p).be i = t.ta p := by rw [next_be, if_pos e]
      rw [e1, val_ta s.nm st.p1, next_T, if_pos e, if_neg (by omega), z, Rat.div_def]
      grind
    · have e1 : (t.next l p).be i = t.be i := by rw [next_be, if_neg e]
      rw [e1, val_be s.nm hi, next_T, if_neg e, if_neg (by omega), z, next_den, Rat.div_def, Rat.div_def, Rat.div_def]
      generalize (- t.T l (p + 1))⁻¹ = B at *
      generalize t.den⁻¹ = D at *
      grind
  · rw [val_no fun i hi e => h ⟨i, hi, e⟩]
    by_cases h2 : ∃ i, i < S.m ∧ t.be i = x
    · obtain ⟨i, hi, rfl⟩ := h2
      have e : i = l := by
        by_cases e : i = l
        · exact e
        · exact absurd ⟨i, hi, by rw [next_be, if_neg e]⟩ h
      rw [val_be s.nm hi, e, z, Rat.div_def]
      grind
    · rw [val_no fun i hi e => h2 ⟨i, hi, e⟩]
end
theorem step_down {P : Nat → Prop} {a b : Nat} (h : a ≤ b) (ha : P a) (hb : ¬ P b) : ∃ k, a ≤ k ∧ k < b ∧ P k ∧ ¬ P (k + 1) := by
  induction b with
  | zero => exact absurd (by rw [show (0 : Nat) = a by omega]; exact ha) hb
  | succ b ih =>
    by_cases e : a = b + 1
    · exact absurd (e ▸ ha) hb
    · by_cases q : P b
      · exact ⟨b, by omega, by omega, q, hb⟩
      · obtain ⟨k, h1, h2, h3⟩ := ih (by omega) q
        exact ⟨k, h1, by omega, h3⟩
theorem step_up {P : Nat → Prop} {a b : Nat} (h : a ≤ b) (ha : ¬ P a) (hb : P b) : ∃ k, a ≤ k ∧ k < b ∧ ¬ P k ∧ P (k + 1) := by
  obtain ⟨k, h1, h2, h3, h4⟩ := step_down (P := fun k => ¬ P k) h ha fun z => z hb
  exact ⟨k, h1, h2, h3, Classical.byContradiction h4⟩
theorem step_both {P : Nat → Prop} {a b x y : Nat} (hab : P a ↔ P b) (x1 : a ≤ x) (x2 : x ≤ b) (y1 : a ≤ y) (y2 : y ≤ b) (hx : P x) (hy : ¬ P y) : (∃ k, a ≤ k ∧ k < b ∧ ¬ P k ∧ P (k + 1)) ∧ ∃ k, a ≤ k ∧ k < b ∧ P k ∧ ¬ P (k + 1) := by
  by_cases h : P a
  · obtain ⟨k, a1, a2, a3⟩ := step_down y1 h hy
    obtain ⟨j, b1, b2, b3⟩ := step_up y2 hy (hab.mp h)
    exact ⟨⟨j, by omega, b2, b3⟩, ⟨k, a1, by omega, a3⟩⟩
  · obtain ⟨k, a1, a2, a3⟩ := step_up x1 h hx
    obtain ⟨j, b1, b2, b3⟩ := step_down x2 hx fun z => h (hab.mpr z)
    exact ⟨⟨k, a1, by omega, a3⟩, ⟨j, by omega, b2, b3⟩⟩
theorem greatest {P : Nat → Prop} {N x : Nat} (hx : P x) (hN : ∀ y, P y → y < N) : ∃ t, P t ∧ ∀ y, P y → y ≤ t := by
  have go : ∀ k, ∀ y, P y → N - y = k → ∃ t, P t ∧ ∀ y, P y → y ≤ t := fun k => by
    induction k using Nat.strongRecOn with
    | ind k ih =>
      intro y hy e
      by_cases h : ∀ z, P z → z ≤ y
      · exact ⟨y, hy, h⟩
      · obtain ⟨z, hz⟩ := Classical.not_forall.mp h
        obtain ⟨hz, hzy⟩ := Classical.not_imp.mp hz
        have := hN z hz
        exact ih (N - z) (by omega) z hz rfl
  exact go _ x hx rfl
/-- a run -/
structure Run (S : Sys) (st : Nat → Tu) (le en : Nat → Nat) (L : Nat) : Prop where
  s0 : St S (st 0)
  go : ∀ k, k < L → Step S (st k) (le k) (en k) ∧ st (k + 1) = (st k).next (le k) (en k)
section
variable {S : Sys} {st : Nat → Tu} {le en : Nat → Nat} {L : Nat}
theorem Run.stt (R : Run S st le en L) : ∀ k, k ≤ L → St S (st k)
  | 0, _ => R.s0
  | k + 1, h => by
    obtain ⟨a, b⟩ := R.go k (by omega)
    rw [b]
    exact (R.stt k (by omega)).next a
theorem Run.sol (R : Run S st le en L) (v : Nat → Rat) : ∀ k, k ≤ L → (Sol S (st k) v ↔ Sol S (st 0) v)
  | 0, _ => Iff.rfl
  | k + 1, h => by
    obtain ⟨a, b⟩ := R.go k (by omega)
    rw [b]
    exact (sol_next a v).trans (R.sol v k (by omega))
theorem Run.be0 (R : Run S st le en L) : ∀ k, k ≤ L → (st k).be 0 = (st 0).be 0
  | 0, _ => rfl
  | k + 1, h => by
    obtain ⟨a, b⟩ := R.go k (by omega)
    rw [b, next_be, if_neg (by have := a.l0; omega)]
    exact R.be0 k (by omega)
/-- no heads come again -/
theorem Run.fresh (R : Run S st le en L) {N : Nat} (hN : ∀ k, k ≤ L → (∀ i, i < S.m → (st k).be i < N) ∧ ∀ j, j < S.n → (st k).ta j < N) {a b : Nat} (hab : a < b) (hb : b ≤ L) (same : ∀ i, i < S.m → (st a).be i = (st b).be i) : False := by
  have sA := R.stt a (by omega)
  have sB := R.stt b hb
  have dA := sA.pos
  have dB := sB.pos
  have qA : (st a).den * (st a).den⁻¹ = 1 := Rat.mul_inv_cancel _ (by grind)
  -- the basic solutions are the same
  have sv : ∀ i, i < S.m → (st a).T i 0 / (st a).den = (st b).T i 0 / (st b).den := fun i hi => by
    have h1 : Says S (st b) ((st b).val S) := val_says sB.nm (by grind)
    have h2 : Sol S (st b) ((st b).val S) := (sB.h.says _).mpr h1
    have h3 : Sol S (st a) ((st b).val S) := (R.sol _ a (by omega)).mpr ((R.sol _ b hb).mp h2)
    have h4 := (sA.h.says _).mp h3 i hi
    have z : (sm S.n fun k => (st a).T i (k + 1) * (st b).val S ((st a).ta k)) = 0 := sm_zero fun k hk => by
      rw [val_no fun j hj e => sA.nm.bt j k hj hk ((same j hj).trans e)]
      grind
    rw [z] at h4
    have e := val_be sB.nm hi
    rw [← same i hi] at e
    rw [← e, Rat.div_def]
    grind
  have zs : zv (st a) = zv (st b) := sv 0 (by have := sA.m1; omega)
  -- the goal stays
  have mono : ∀ k, a ≤ k → k ≤ b → zv (st k) ≤ zv (st a) := fun k => by
    induction k with
    | zero => intro h1 _; rw [show a = 0 by omega]; exact Rat.le_refl
    | succ k ih =>
      intro h1 h2
      by_cases e : a = k + 1
      · rw [e]; exact Rat.le_refl
      · obtain ⟨x, y⟩ := R.go k (by omega)
        have := (zv_next (R.stt k (by omega)) x).1
        rw [← y] at this
        have := ih (by omega) (by omega)
        grind
  have mono2 : ∀ d k, k + d = b → a ≤ k → zv (st b) ≤ zv (st k) := fun d => by
    induction d with
    | zero => intro k h1 _; rw [show k = b by omega]; exact Rat.le_refl
    | succ d ih =>
      intro k h1 h2
      obtain ⟨x, y⟩ := R.go k (by omega)
      have h3 := (zv_next (R.stt k (by omega)) x).1
      rw [← y] at h3
      have h4 := ih (k + 1) (by omega) (by omega)
      grind
  have stay : ∀ k, a ≤ k → k ≤ b → zv (st k) = zv (st a) := fun k h1 h2 => by
    have := mono k h1 h2
    have := mono2 (b - k) k (by omega) h1
    grind
  have deg : ∀ k, a ≤ k → k < b → (st k).T (le k) 0 = 0 := fun k h1 h2 => by
    obtain ⟨x, y⟩ := R.go k (by omega)
    refine (zv_next (R.stt k (by omega)) x).2 ?_
    rw [← y, stay (k + 1) (by omega) (by omega), stay k h1 (by omega)]
  have vals : ∀ k, a ≤ k → k ≤ b → ∀ x, (st k).val S x = (st a).val S x := fun k => by
    induction k with
    | zero => intro h1 _ x; rw [show a = 0 by omega]
    | succ k ih =>
      intro h1 h2 x
      by_cases e : a = k + 1
      · rw [e]
      · obtain ⟨u, y⟩ := R.go k (by omega)
        rw [y, val_next (R.stt k (by omega)) u (deg k (by omega) (by omega)) x]
        exact ih (by omega) (by omega) x
  -- variables that come and go
  let bas : Nat → Nat → Prop := fun x k => ∃ i, i < S.m ∧ (st k).be i = x
  let non : Nat → Nat → Prop := fun x k => ∃ j, j < S.n ∧ (st k).ta j = x
  have bn : ∀ x k, a ≤ k → k ≤ b → non x k → ¬ bas x k := fun x k h1 h2 ⟨j, hj, e⟩ ⟨i, hi, e2⟩ => (R.stt k (by omega)).nm.bt i j hi hj (e2.trans e.symm)
  let Fk : Nat → Prop := fun x => (∃ k, a ≤ k ∧ k ≤ b ∧ bas x k) ∧ ∃ k, a ≤ k ∧ k ≤ b ∧ non x k
  have zero : ∀ x, Fk x → (st a).val S x = 0 := fun x ⟨_, k, h1, h2, j, hj, e⟩ => by
    rw [← vals k h1 h2 x, ← e, val_ta (R.stt k (by omega)).nm hj]
  have enter : ∀ k, a ≤ k → k < b → Fk ((st k).ta (en k)) := fun k h1 h2 => by
    obtain ⟨x, y⟩ := R.go k (by omega)
    refine ⟨⟨k + 1, by omega, by omega, le k, x.l1, ?_⟩, ⟨k, h1, by omega, en k, x.p1, rfl⟩⟩
    rw [y, next_be, if_pos rfl]
  obtain ⟨t, tF, tmax⟩ := greatest (P := Fk) (N := N) (enter a (Nat.le_refl a) hab) fun x ⟨_, k, h1, h2, j, hj, e⟩ => e ▸ (hN k (by omega)).2 j hj
  have tFk := tF
  obtain ⟨⟨kb, b1, b2, b3⟩, ⟨kn, n1, n2, n3⟩⟩ := tF
  have ends : bas t a ↔ bas t b := by
    constructor
    · rintro ⟨i, hi, e⟩
      exact ⟨i, hi, (same i hi).symm.trans e⟩
    · rintro ⟨i, hi, e⟩
      exact ⟨i, hi, (same i hi).trans e⟩
  obtain ⟨⟨k1, u1, u2, u3, u4⟩, ⟨k2, w1, w2, w3, w4⟩⟩ := step_both (P := bas t) ends b1 b2 n1 n2 b3 (bn t kn n1 n2 n3)
  -- t comes in at k1, goes out at k2
  obtain ⟨x1, y1⟩ := R.go k1 (by omega)
  obtain ⟨x2, y2⟩ := R.go k2 (by omega)
  have S1 := R.stt k1 (by omega)
  have S2 := R.stt k2 (by omega)
  have in1 : (st k1).ta (en k1) = t := by
    obtain ⟨i, hi, e⟩ := u4
    rw [y1, next_be] at e
    by_cases q : i = le k1
    · rw [if_pos q] at e; exact e
    · rw [if_neg q] at e; exact absurd ⟨i, hi, e⟩ u3
  have out2 : (st k2).be (le k2) = t := by
    obtain ⟨i, hi, e⟩ := w3
    by_cases q : i = le k2
    · rw [← q]; exact e
    · exact absurd ⟨i, hi, by rw [y2, next_be, if_neg q]; exact e⟩ w4
  have eF := enter k2 w1 w2
  generalize hA : st k1 = A at *
  generalize hB : st k2 = B at *
  generalize en k1 = p1 at *
  generalize en k2 = p2 at *
  generalize le k2 = l2 at *
  have pA := S1.pos
  have pB := S2.pos
  have qA' : A.den * A.den⁻¹ = 1 := Rat.mul_inv_cancel _ (by grind)
  have qB' : B.den * B.den⁻¹ = 1 := Rat.mul_inv_cancel _ (by grind)
  have iA := inv_pos pA
  have iB := inv_pos pB
  -- a ray of B, told by A
  have sy := ray_says S2.nm (show B.den ≠ 0 by grind) x2.p1 1
  have sol : Sol S B (B.ray S p2 1) := (S2.h.says _).mpr sy
  have solA : Sol S A (B.ray S p2 1) := by
    rw [← hA]
    refine (R.sol _ k1 (by omega)).mpr ?_
    rw [← hB] at sol
    rw [← hB]
    exact (R.sol _ k2 (by omega)).mp sol
  have tellA := (S1.h.says _).mp solA 0 (by have := S1.m1; omega)
  have be00 : A.be 0 = B.be 0 := by
    rw [← hA, ← hB, R.be0 k1 (by omega), R.be0 k2 (by omega)]
  have ray0 := ray_be (y := 1) (p := p2) S2.nm (show 0 < S.m by have := S1.m1; omega)
  rw [be00, ray0] at tellA
  have zAB : A.T 0 0 / A.den = B.T 0 0 / B.den := by
    have h1 := stay k1 u1 (by omega)
    have h2 := stay k2 w1 (by omega)
    unfold zv at h1 h2
    rw [hA] at h1
    rw [hB] at h2
    rw [h1, h2]
  -- the ray is the common solution and its way
  let dd : Nat → Rat := fun x => B.ray S p2 1 x - (st a).val S x
  have sumA : (sm S.n fun k => A.T 0 (k + 1) * dd (A.ta k)) < 0 := by
    have e : (sm S.n fun k => A.T 0 (k + 1) * dd (A.ta k)) = sm S.n fun k => A.T 0 (k + 1) * B.ray S p2 1 (A.ta k) := sm_congr fun k hk => by
      have : (st a).val S (A.ta k) = 0 := by
        rw [← vals k1 u1 (by omega), hA]
        exact val_ta S1.nm hk
      show A.T 0 (k + 1) * (B.ray S p2 1 (A.ta k) - (st a).val S (A.ta k)) = _
      rw [this]
      grind
    rw [e]
    have f := x2.fall
    rw [Rat.div_def] at tellA
    rw [Rat.div_def, Rat.div_def] at zAB
    have g : (sm S.n fun k => A.T 0 (k + 1) * B.ray S p2 1 (A.ta k)) = A.den * (B.T 0 (p2 + 1) * B.den⁻¹) := by grind
    rw [g]
    have h1 := Rat.mul_pos (Rat.mul_pos pA iB) (show 0 < - B.T 0 (p2 + 1) by grind)
    grind
  obtain ⟨j, hj, hneg⟩ : ∃ j, j < S.n ∧ A.T 0 (j + 1) * dd (A.ta j) < 0 := by
    refine Classical.byContradiction fun no => ?_
    have : 0 ≤ sm S.n fun k => A.T 0 (k + 1) * dd (A.ta k) := sm_nonneg fun k hk => by
      refine Classical.byContradiction fun z => no ⟨k, hk, by grind⟩
    grind
  generalize hr : A.ta j = r at *
  have rn : non r k1 := ⟨j, hj, by rw [hA]; exact hr⟩
  have small : r ≤ t → r ≠ t → 0 ≤ A.T 0 (j + 1) := fun h1 h2 => by
    refine Classical.byContradiction fun z => ?_
    have := x1.least j hj (by grind)
    rw [in1, hr] at this
    omega
  -- what r is in B
  by_cases hb : ∃ i, i < S.m ∧ B.be i = r
  · obtain ⟨i, hi, e⟩ := hb
    have i0 : i ≠ 0 := fun z => by
      subst z
      exact S1.nm.bt 0 j (by omega) hj (by rw [be00, e, hr])
    have rF : Fk r := ⟨⟨k2, w1, by omega, i, hi, by rw [hB]; exact e⟩, ⟨k1, u1, by omega, rn⟩⟩
    have rt := tmax r rF
    have dr : dd r = B.T i (p2 + 1) * B.den⁻¹ := by
      show B.ray S p2 1 r - (st a).val S r = _
      rw [← vals k2 w1 (by omega) r, hB, ← e, ray_be S2.nm hi, val_be S2.nm hi, Rat.div_def, Rat.div_def]
      grind
    by_cases q : r = t
    · -- it is t itself
      have il : i = l2 := S2.nm.bb i l2 hi x2.l1 (e.trans (q.trans out2.symm))
      have jp : j = p1 := S1.nm.tt j p1 hj x1.p1 (hr.trans (q.trans in1.symm))
      have f1 := x1.fall
      have f2 := x2.by0
      rw [dr, il, jp] at hneg
      have h1 := Rat.mul_pos (Rat.mul_pos (show 0 < - A.T 0 (p1 + 1) by grind) (show 0 < - B.T l2 (p2 + 1) by grind)) iB
      grind
    · have c := small rt q
      rw [dr] at hneg
      have b1 : B.T i (p2 + 1) < 0 := by
        refine Classical.byContradiction fun z => ?_
        have h1 := mul_nn (mul_nn c (show 0 ≤ B.T i (p2 + 1) by grind)) (Rat.le_of_lt iB)
        grind
      have v0 : B.T i 0 = 0 := by
        have h1 := zero r rF
        rw [← vals k2 w1 (by omega) r, hB, ← e, val_be S2.nm hi, Rat.div_def] at h1
        rcases Rat.mul_eq_zero.mp h1 with z | z
        · exact z
        · grind
      have l0 : B.T l2 0 = 0 := by
        have := deg k2 w1 w2
        rw [hB] at this
        have h1 := zero t tFk
        rw [← vals k2 w1 (by omega) t, hB, ← out2, val_be S2.nm x2.l1, Rat.div_def] at h1
        rcases Rat.mul_eq_zero.mp h1 with z | z
        · exact z
        · grind
      have := x2.tie i (by omega) hi b1 (by rw [v0, l0]; grind)
      rw [out2, e] at this
      omega
  · -- it is the one that comes in at k2, or nothing
    have dr : dd r = if r = B.ta p2 then 1 else 0 := by
      show B.ray S p2 1 r - (st a).val S r = _
      rw [← vals k2 w1 (by omega) r, hB, val_no fun i hi e => hb ⟨i, hi, e⟩]
      unfold Tu.ray
      rw [findB_none fun i hi e => hb ⟨i, hi, e⟩]
      show (if r = B.ta p2 then (1 : Rat) else 0) - 0 = _
      grind
    by_cases q : r = B.ta p2
    · rw [dr, if_pos q] at hneg
      have rF : Fk r := by rw [q]; exact eF
      have rt := tmax r rF
      have ne : r ≠ t := fun z => by
        have := S2.nm.bt l2 p2 x2.l1 x2.p1
        rw [out2, ← z, q] at this
        exact this rfl
      have := small rt ne
      grind
    · rw [dr, if_neg q] at hneg
      grind
end
end Lp

namespace Lp
/-! ### how long a run can be -/
def enc (N : Nat) (f : Nat → Nat) : Nat → Nat
  | 0 => 0
  | m + 1 => enc N f m * N + f m
theorem enc_lt {N : Nat} {f : Nat → Nat} : ∀ {m : Nat}, (∀ i, i < m → f i < N) → enc N f m < N ^ m
  | 0, _ => by simp [enc]
  | m + 1, h => by
    have h1 : enc N f m < N ^ m := enc_lt (m := m) fun i hi => h i (by omega)
    have h2 := h m (by omega)
    have h3 : (enc N f m + 1) * N ≤ N ^ m * N := Nat.mul_le_mul_right _ h1
    rw [Nat.add_mul,
                                                                                                                  Nat.one_mul] at h3
    rw [enc, Nat.pow_succ]
    omega
theorem enc_inj {N : Nat} {f g : Nat → Nat} : ∀ {m : Nat}, (∀ i, i < m → f i < N) → (∀ i, i < m → g i < N) → enc N f m = enc N g m → ∀ i, i < m → f i = g i
  | 0, _, _, _, _, h => by omega
  | m + 1, hf, hg, e, i, hi => by
    have f1 := hf m (by omega)
    have g1 := hg m (by omega)
    rw [enc, enc] at e
    have N0 : 0 < N := by omega
    have m1 : (enc N f m * N + f m) % N = (enc N g m * N + g m) % N := by rw [e]
    have d1 : (enc N f m * N + f m) / N = (enc N g m * N + g m) / N := by rw [e]
    rw [Nat.mul_comm, Nat.mul_comm (enc N g m), Nat.mul_add_mod, Nat.mul_add_mod, Nat.mod_eq_of_lt f1, Nat.mod_eq_of_lt g1] at m1
    rw [Nat.mul_comm, Nat.mul_comm (enc N g m), Nat.mul_add_div N0, Nat.mul_add_div N0, Nat.div_eq_of_lt f1, Nat.div_eq_of_lt g1] at d1
    by_cases q : i = m
    · rw [q]; exact m1
    · exact enc_inj (m := m) (fun i hi => hf i (by omega)) (fun i hi => hg i (by omega)) (by omega) i (by omega)
theorem pigeon {f : Nat → Nat} {B L : Nat} (h : ∀ k, k ≤ L → f k < B) (hB : B ≤ L) : ∃ a b, a < b ∧ b ≤ L ∧ f a = f b := by
  refine Classical.byContradiction fun no => ?_
  have nd : ((List.range (L + 1)).map f).Nodup := by
    show ((List.range (L + 1)).map f).Pairwise _
    rw [List.pairwise_map]
    refine List.pairwise_lt_range.imp_of_mem fun {a b} ha hb hab e => ?_
    have := List.mem_range.mp hb
    exact no ⟨a, b, hab, by omega, e⟩
  have sub : ∀ x ∈ (List.range (L + 1)).map f, x ∈ List.range B := fun x hx => by
    obtain ⟨k, hk, rfl⟩ := List.mem_map.mp hx
    have := List.mem_range.mp hk
    exact List.mem_range.mpr (h k (by omega))
  have := nd.length_le_of_subset sub
  rw [List.length_map, List.length_range, List.length_range] at this
  omega
theorem Run.short {S : Sys} {st : Nat → Tu} {le en : Nat → Nat} {L N : Nat} (R : Run S st le en L) (hN : ∀ k, k ≤ L → (∀ i, i < S.m → (st k).be i < N) ∧ ∀ j, j < S.n → (st k).ta j < N) : L < N ^ S.m := by
  refine Classical.byContradiction fun no => ?_
  obtain ⟨a, b, hab, hb, e⟩ := pigeon (f := fun k => enc N (st k).be S.m) (L := L) (fun k hk => enc_lt (hN k hk).1) (by omega)
  exact R.fresh hN hab hb (enc_inj (hN a (by omega)).1 (hN b hb).1 e)
end Lp

namespace Lp
/-! ### tableaus as lists of whole numbers -/
structure Tb where
  den : Int
  tops : List Int
  heads : List Int
  rows : List (List Int)
  goal : List Int
def gI (l : List Int) (k : Nat) : Int := l.getD k 0
def Tb.row (t : Tb) (i : Nat) : List Int := t.rows.getD i []
/-- a row in which the variable at a place is put in by the pivot row -/
def turnL (den : Int) (row pivot : List Int) (p : Nat) : List Int := (List.zipWith (fun x y => (x * gI pivot p - gI row p * y).fdiv den) row pivot).set p (gI row p)
def negL (l : List Int) : List Int := l.map fun x => - x
/-- the head of row i and the top q (at place q + 1) change places -/
def Tb.exch (t : Tb) (i q : Nat) : Tb :=
  let pivot := t.row i
  let rows := (t.rows.map fun row => turnL t.den row pivot (q + 1)).set i ((negL pivot).set (q + 1) t.den)
  let goal := turnL t.den t.goal pivot (q + 1)
  let heads := t.heads.set i (gI t.tops q)
  let tops := t.tops.set q (gI t.heads i)
  if gI pivot (q + 1) < 0 then ⟨- gI pivot (q + 1), tops, heads, rows.map negL, negL goal⟩ else ⟨gI pivot (q + 1), tops, heads, rows, goal⟩
structure Shape (m n : Nat) (t : Tb) : Prop where
  tops : t.tops.length = n
  heads : t.heads.length = m
  rows : t.rows.length = m
  row : ∀ r ∈ t.rows, r.length = n + 1
  goal : t.goal.length = n + 1
/-- row 0 is the goal, z its name -/
def Tb.tu (t : Tb) (z : Nat) : Tu where
  den := t.den
  be := fun i => match i with
    | 0 => z
    | i + 1 => (gI t.heads i).toNat
  ta := fun k => (gI t.tops k).toNat
  T := fun i k => match i with
    | 0 => (gI t.goal k : Rat)
    | i + 1 => (gI (t.row i) k : Rat)
  G := fun _ => 0
theorem gI_lt {l : List Int} {k : Nat} (h : k < l.length) : gI l k = l[k] := by
  unfold gI
  rw [List.getD_eq_getElem?_getD,
                                                                                                                List.getElem?_eq_getElem h]; rfl
theorem gI_ge {l : List Int} {k : Nat} (h : l.length ≤ k) : gI l k = 0 := by
  unfold gI
  rw [List.getD_eq_getElem?_getD, List.getElem?_eq_none h]; rfl
theorem gI_set {l : List Int} {i k : Nat} {x : Int} (h : i < l.length) : gI (l.set i x) k = if k = i then x else gI l k := by
  unfold gI
  rw [List.getD_eq_getElem?_getD, List.getD_eq_getElem?_getD, List.getElem?_set]
  by_cases e : i = k
  · rw [if_pos e, if_pos h, if_pos e.symm]; rfl
  · rw [if_neg e, if_neg fun z => e z.symm]
section
variable {m n : Nat} {t : Tb} (s : Shape m n t)
include s
end
end Lp

namespace Lp
/-! ### the top that comes in -/
def pairLe (a b : Int × Nat) : Bool := decide (a.1 < b.1 ∨ a.1 = b.1 ∧ a.2 ≤ b.2)
def Tb.falls (t : Tb) : List (Int × Nat) := ((List.range t.tops.length).filter fun q => decide (gI t.goal (q + 1) < 0)).map fun q => (gI t.tops q, q + 1)
/-- its place, from 1 on -/
def Tb.fall (t : Tb) : Option Nat := match t.falls.mergeSort pairLe with
  | [] => none
  | x :: _ => some x.2
/-! ### the head that goes out -/
/-- row i is 0 ahead of row b, or with it and its head is less -/
def Tb.better (t : Tb) (p i b : Nat) : Bool := decide (0 < gI (t.row i) 0 * gI (t.row b) p - gI (t.row b) 0 * gI (t.row i) p) || (decide (gI (t.row i) 0 * gI (t.row b) p - gI (t.row b) 0 * gI (t.row i) p = 0) && decide (gI t.heads i < gI t.heads b))
def Tb.leaveS (t : Tb) (p : Nat) (best : Option Nat) (i : Nat) : Option Nat := if gI (t.row i) p < 0 then some (if t.better p i (best.getD i) = true then i else best.getD i) else best
def Tb.leave (t : Tb) (p : Nat) : Option Nat := (List.range t.rows.length).foldl (t.leaveS p) none
/-! ### the goal is made least -/
def Tb.stepT (t : Tb) : Option Tb := t.fall.bind fun p => (t.leave p).map fun i => t.exch i (p - 1)
def Tb.lower : Nat → Tb → Option (Tb × Option Nat)
  | 0, _ => none
  | f + 1, t => match t.fall with
    | none => some (t, none)
    | some p => match t.leave p with
      | none => some (t, some p)
      | some i => Tb.lower f (t.exch i (p - 1))
/-- names are not below 0 -/
structure NN (t : Tb) : Prop where
  tops : ∀ k, 0 ≤ gI t.tops k
  heads : ∀ k, 0 ≤ gI t.heads k
theorem exch_names {t : Tb} {i q : Nat} : (t.exch i q).tops = t.tops.set q (gI t.heads i) ∧ (t.exch i q).heads = t.heads.set i (gI t.tops q) := by
  unfold Tb.exch
  by_cases h : gI (t.row i) (q + 1) < 0
  · rw [if_pos h]; exact ⟨rfl, rfl⟩
  · rw [if_neg h]; exact ⟨rfl, rfl⟩
theorem gI_set_any (l : List Int) (i k : Nat) (x : Int) : gI (l.set i x) k = x ∨ gI (l.set i x) k = gI l k := by
  by_cases h : i < l.length
  · rw [gI_set h]
    by_cases e : k = i
    · rw [if_pos e]; exact .inl rfl
    · rw [if_neg e]; exact .inr rfl
  · rw [List.set_eq_of_length_le (by omega)]; exact .inr rfl
theorem NN.exch {t : Tb} (h : NN t) (i q : Nat) : NN (t.exch i q) := by
  obtain ⟨e1, e2⟩ := exch_names (t := t) (i := i) (q := q)
  refine ⟨fun k => ?_, fun k => ?_⟩
  · rw [e1]
    rcases gI_set_any t.tops q k (gI t.heads i) with z | z <;> rw [z]
    · exact h.heads i
    · exact h.tops k
  · rw [e2]
    rcases gI_set_any t.heads i k (gI t.tops q) with z | z <;> rw [z]
    · exact h.tops q
    · exact h.heads k
end Lp

namespace Lp
structure Good (S : Sys) (z m n N : Nat) (t : Tb) : Prop where
  sh : Shape m n t
  nn : NN t
  st : St S (t.tu z)
  be : ∀ i, i < S.m → (t.tu z).be i < N
  ta : ∀ j, j < S.n → (t.tu z).ta j < N
section
variable {S : Sys} {z m n N : Nat} (hm : S.m = m + 1) (hn : S.n = n) (hC : ∀ r x, r < S.m → Wh (S.C r x)) (ha : ∀ r, r < S.m → Wh (S.a r))
include hm hn hC ha
def iter (t : Tb) : Nat → Tb
  | 0 => t
  | k + 1 => ((iter t k).stepT).getD (iter t k)
end
end Lp

namespace Lp
/-! ### names, each of them once -/
def ls (F : Nat → Rat) : List Int → Rat
  | [] => 0
  | x :: l => F x.toNat + ls F l
theorem ls_app (F : Nat → Rat) (a b : List Int) : ls F (a ++ b) = ls F a + ls F b := by
  induction a with
  | nil => simp only [List.nil_append, ls]; grind
  | cons x a ih => rw [List.cons_append, ls, ls, ih]; grind
theorem ls_perm {F : Nat → Rat} {a b : List Int} (h : a.Perm b) : ls F a = ls F b := by
  induction h with
  | nil => rfl
  | cons x _ ih => rw [ls, ls, ih]
  | swap x y l => simp only [ls]; grind
  | trans _ _ i1 i2 => exact i1.trans i2
theorem ls_sm (F : Nat → Rat) : ∀ (l : List Int), ls F l = sm l.length fun k => F (gI l k).toNat
  | [] => rfl
  | x :: l => by
    rw [ls, ls_sm F l, List.length_cons, sm_shift]
    rfl
theorem set_perm {a b : List Int} {i q : Nat} (hi : i < b.length) (hq : q < a.length) : ((a.set q (gI b i)) ++ (b.set i (gI a q))).Perm (a ++ b) := by
  have ea : a = a.take q ++ gI a q :: a.drop (q + 1) := by
    rw [gI_lt hq, ← List.drop_eq_getElem_cons hq, List.take_append_drop]
  have eb : b = b.take i ++ gI b i :: b.drop (i + 1) := by
    rw [gI_lt hi, ← List.drop_eq_getElem_cons hi, List.take_append_drop]
  rw [List.set_eq_take_append_cons_drop, if_pos hq, List.set_eq_take_append_cons_drop, if_pos hi]
  have e2 : (a ++ b).Perm ((a.take q ++ gI a q :: a.drop (q + 1)) ++ (b.take i ++ gI b i :: b.drop (i + 1))) := by rw [← ea, ← eb]
  refine List.Perm.trans ?_ e2.symm
  generalize a.take q = a1
  generalize a.drop (q + 1) = a2
  generalize b.take i = b1
  generalize b.drop (i + 1) = b2
  generalize gI a q = x
  generalize gI b i = y
  rw [List.append_assoc,
                                                                                                                List.append_assoc]
  refine List.Perm.append_left a1 ?_
  rw [List.cons_append, List.cons_append, ← List.append_assoc, ← List.append_assoc]
  refine (List.Perm.cons y List.perm_middle).trans ((List.Perm.swap x y _).trans (List.Perm.cons x List.perm_middle.symm))
/-- the names of a tableau -/
structure Nm (base : List Int) (t : Tb) : Prop where
  p : (t.tops ++ t.heads).Perm base
  nd : base.Nodup
  nn : ∀ x ∈ base, 0 ≤ x
theorem Nm.exch {base : List Int} {t : Tb} {m n : Nat} (h : Nm base t) (s : Shape m n t) {i q : Nat} (hi : i < m) (hq : q < n) : Nm base (t.exch i q) := by
  obtain ⟨e1, e2⟩ := exch_names (t := t) (i := i) (q := q)
  refine ⟨?_, h.nd, h.nn⟩
  rw [e1, e2]
  exact (set_perm (by rw [s.heads]; exact hi) (by rw [s.tops]; exact hq)).trans h.p
section
variable {base : List Int} {t : Tb} {m n : Nat} (h : Nm base t) (s : Shape m n t)
include h s
theorem Nm.top_mem {k : Nat} (hk : k < n) : gI t.tops k ∈ base := by
  rw [gI_lt (by rw [s.tops]; exact hk)]
  exact h.p.mem_iff.mp (List.mem_append_left _ (List.getElem_mem _))
theorem Nm.head_mem {k : Nat} (hk : k < m) : gI t.heads k ∈ base := by
  rw [gI_lt (by rw [s.heads]; exact hk)]
  exact h.p.mem_iff.mp (List.mem_append_right _ (List.getElem_mem _))
theorem Nm.nnt : NN t := by
  refine ⟨fun k => ?_, fun k => ?_⟩
  · by_cases hk : k < n
    · exact h.nn _ (h.top_mem s hk)
    · rw [gI_ge (by rw [s.tops]; omega)]; exact Int.le_refl _
  · by_cases hk : k < m
    · exact h.nn _ (h.head_mem s hk)
    · rw [gI_ge (by rw [s.heads]; omega)]; exact Int.le_refl _
theorem Nm.nd' : (t.tops ++ t.heads).Nodup := h.p.nodup_iff.mpr h.nd
theorem Nm.tt {j k : Nat} (hj : j < n) (hk : k < n) (e : gI t.tops j = gI t.tops k) : j = k := by
  have nd := (List.nodup_append.mp (h.nd' s)).1
  rw [gI_lt (by rw [s.tops]; exact hj), gI_lt (by rw [s.tops]; exact hk)] at e
  exact (List.getElem_inj nd).mp e
theorem Nm.bb {j k : Nat} (hj : j < m) (hk : k < m) (e : gI t.heads j = gI t.heads k) : j = k := by
  have nd := (List.nodup_append.mp (h.nd' s)).2.1
  rw [gI_lt (by rw [s.heads]; exact hj), gI_lt (by rw [s.heads]; exact hk)] at e
  exact (List.getElem_inj nd).mp e
theorem Nm.bt {j k : Nat} (hj : j < m) (hk : k < n) : gI t.heads j ≠ gI t.tops k := by
  have nd := (List.nodup_append.mp (h.nd' s)).2.2
  rw [gI_lt (by rw [s.heads]; exact hj), gI_lt (by rw [s.tops]; exact hk)]
  exact fun e => nd _ (List.getElem_mem _) _ (List.getElem_mem _) e.symm
/-- with a name z of no other one -/
theorem Nm.names {S : Sys} {z : Nat} (hm : S.m = m + 1) (hn : S.n = n) (hz : ∀ x ∈ base, x.toNat ≠ z) : Names S (t.tu z) := by
  have nn := h.nnt s
  refine ⟨fun i j hi hj e => ?_, fun i j hi hj e => ?_, fun i j hi hj e => ?_⟩
  · cases i with
    | zero => cases j with
      | zero => rfl
      | succ j => exact absurd e.symm (hz _ (h.head_mem s (show j < m by omega)))
    | succ i => cases j with
      | zero => exact absurd e (hz _ (h.head_mem s (show i < m by omega)))
      | succ j =>
        have e : (gI t.heads i).toNat = (gI t.heads j).toNat := e
        have := nn.heads i
        have := nn.heads j
        rw [h.bb s (show i < m by omega) (show j < m by omega) (by omega)]
  · have e : (gI t.tops i).toNat = (gI t.tops j).toNat := e
    have := nn.tops i
    have := nn.tops j
    exact h.tt s (by omega) (by omega) (by omega)
  · cases i with
    | zero => exact absurd e.symm (hz _ (h.top_mem s (show j < n by omega)))
    | succ i =>
      have e : (gI t.heads i).toNat = (gI t.tops j).toNat := e
      have := nn.heads i
      have := nn.tops j
      exact h.bt s (show i < m by omega) (show j < n by omega) (by omega)
/-- a sum over all names -/
theorem Nm.sum (F : Nat → Rat) : (sm m fun i => F (gI t.heads i).toNat) + (sm n fun k => F (gI t.tops k).toNat) = ls F base := by
  rw [← ls_perm h.p, ls_app, ls_sm, ls_sm, s.tops, s.heads]
  grind
end
end Lp

namespace Lp
/-! ### the system of a program: m rows over n variables -/
structure Dat where
  m : Nat
  n : Nat
  A : List (List Int)
structure Dat.Ok (D : Dat) : Prop where
  len : D.A.length = D.m
  row : ∀ r ∈ D.A, r.length = D.n + 1
def Dat.at (D : Dat) (i x : Nat) : Rat := (gI (D.A.getD i []) x : Rat)
def Dat.z (D : Dat) : Nat := D.n + D.m + 1
/-- helper 0, the variables 1 .., the rows' own ones n + 1 .. -/
def Dat.C (D : Dat) (i x : Nat) : Rat := if x = D.n + 1 + i then 1 else if x = 0 then -1 else if x ≤ D.n then - D.at i x else 0
def sysG (D : Dat) (n' : Nat) (g : Nat → Rat) : Sys where
  m := D.m + 1
  n := n'
  C := fun r x => match r with
    | 0 => if x = D.z then 1 else - g x
    | r + 1 => if x = D.z then 0 else D.C r x
  a := fun r => match r with
    | 0 => 0
    | r + 1 => D.at r 0
theorem Dat.whole (D : Dat) (i x : Nat) : Wh (D.C i x) := by
  unfold Dat.C Dat.at
  split
  · exact .one
  · split
    · exact Wh.one.neg
    · split
      · exact Wh.neg ⟨_, rfl⟩
      · exact .zero
section
variable {D : Dat} {n' : Nat} {g : Nat → Rat} {t : Tb} {base : List Int} (h : Nm base t) (s : Shape D.m n' t) (hz : ∀ x ∈ base, x.toNat ≠ D.z)
include h s hz
end
end Lp

namespace Lp
/-! ### how it begins -/
def idsI (a k : Nat) : List Int := (List.range k).map fun j => ((a + j : Nat) : Int)
def base2 (D : Dat) : List Int := idsI 1 D.n ++ idsI (D.n + 1) D.m
def Tb.init (D : Dat) : Tb := ⟨1, idsI 1 D.n, idsI (D.n + 1) D.m, D.A, List.replicate (D.n + 1) 0⟩
/-- with the helper 0 -/
def Tb.help (t : Tb) : Tb := ⟨t.den, t.tops ++ [0], t.heads, t.rows.map fun r => r ++ [1], List.replicate t.goal.length 0 ++ [1]⟩
section
variable {D : Dat} (ok : D.Ok)
include ok
def g0 : Nat → Rat := fun x => if x = 0 then 1 else 0
end
end Lp

namespace Lp
/-! ### the first walk: to a feasible tableau -/
def consts (t : Tb) : List Int := t.rows.map fun r => gI r 0
def leastC (t : Tb) : Int := (consts t).foldr min 0
def idxC (t : Tb) : Nat := (consts t).idxOf (leastC t)
section
variable {D : Dat} {u : Tb} {base : List Int} {n' : Nat} {g : Nat → Rat} (hs : Shape D.m n' u) (hnm : Nm base u) (hz : ∀ x ∈ base, x.toNat ≠ D.z) (hb : ∀ x ∈ base, x ≤ D.n + D.m)
include hs hnm hz hb
omit hb in
end
section
variable {D : Dat} (ok : D.Ok)
include ok
end
end Lp

namespace Lp
/-! ### without the helper, and with a goal -/
def Tb.dele (t : Tb) (q : Nat) : Tb := ⟨t.den, t.tops.eraseIdx q, t.heads, t.rows.map fun r => r.eraseIdx (q + 1), t.goal⟩
/-- the goal, one variable after the other -/
def Tb.putS (t : Tb) (fac : List Int) (found : List Int) (j : Nat) : List Int :=
  if ((j : Int) + 1) ∈ t.tops then found.set (t.tops.idxOf ((j : Int) + 1) + 1) (gI found (t.tops.idxOf ((j : Int) + 1) + 1) + gI fac j * t.den)
  else List.zipWith (fun a b => a + gI fac j * b) found (t.row (t.heads.idxOf ((j : Int) + 1)))
def Tb.putL (t : Tb) (fac : List Int) (k : Nat) : List Int := (List.range k).foldl (t.putS fac) (List.replicate (t.tops.length + 1) 0)
def Tb.put (t : Tb) (fac : List Int) : Tb := { t with goal := t.putL fac fac.length }
section
variable {D : Dat} {t : Tb} (hs : Shape D.m D.n t) (hnm : Nm (base2 D) t)
include hs hnm
end
end Lp

namespace Lp
/-! ### what a tableau at its end says -/
/-- the number of the variable x in the goal -/
def yO (n' : Nat) (u : Tb) (x : Nat) : Rat := sm n' fun k => if (gI u.tops k).toNat = x then (gI u.goal (k + 1) : Rat) / (u.den : Rat) else 0
/-- the value of the variable x where all tops are 0 -/
def bv (m : Nat) (u : Tb) (x : Nat) : Rat := sm m fun i => if (gI u.heads i).toNat = x then (gI (u.row i) 0 : Rat) / (u.den : Rat) else 0
theorem pick0 {n x : Nat} {a : Nat → Nat} {c : Nat → Rat} (no : ∀ k, k < n → a k ≠ x) : (sm n fun k => if a k = x then c k else 0) = 0 := sm_zero fun k hk => if_neg (no k hk)
section
variable {D : Dat} {n' N : Nat} {g : Nat → Rat} {u : Tb} {base : List Int} (G : Good (sysG D n' g) D.z D.m n' N u) (hnm : Nm base u) (hz : ∀ x ∈ base, x.toNat ≠ D.z) (hb : ∀ x ∈ base, x ≤ D.n + D.m)
include G hnm
theorem bt' {j k : Nat} (hj : j < D.m) (hk : k < n') : (gI u.heads j).toNat ≠ (gI u.tops k).toNat := fun e => by
  have nn := hnm.nnt G.sh
  have := nn.heads j
  have := nn.tops k
  exact hnm.bt G.sh hj hk (by omega)
theorem yO_head {i : Nat} (hi : i < D.m) : yO n' u (gI u.heads i).toNat = 0 := pick0 (a := fun k => (gI u.tops k).toNat) fun k hk e => bt' G hnm hi hk e.symm
omit hnm in
theorem den_pos : (0 : Rat) < (u.den : Rat) := G.st.pos
/-- one of both is 0 -/
theorem apart (x : Nat) : yO n' u x = 0 ∨ bv D.m u x = 0 := by
  by_cases h : ∃ i, i < D.m ∧ (gI u.heads i).toNat = x
  · obtain ⟨i, hi, rfl⟩ := h
    exact .inl (yO_head G hnm hi)
  · exact .inr (pick0 (a := fun k => (gI u.heads k).toNat) fun i hi e => h ⟨i, hi, e⟩)
include hz hb
end
end Lp

namespace Lp
/-! ### told by the unknowns and the rows -/
def slack (D : Dat) (w : Nat → Rat) (i : Nat) : Rat := D.at i 0 + sm D.n fun j => D.at i (j + 1) * w (j + 1)
def grow (D : Dat) (w : Nat → Rat) (i : Nat) : Rat := sm D.n fun j => D.at i (j + 1) * w (j + 1)
/-- the variables, with the rows' own ones -/
def ext (D : Dat) (w : Nat → Rat) (t : Rat) (x : Nat) : Rat := if x = D.z then t else if x = 0 then 0 else if x ≤ D.n then w x else slack D w (x - (D.n + 1))
def fsum (fac : List Int) (n : Nat) (w : Nat → Rat) : Rat := sm n fun j => (gI fac j : Rat) * w (j + 1)
/-- told: a least value -/
structure ToldC (D : Dat) (fac : List Int) (t : Rat) (x y z : Nat → Rat) : Prop where
  x0 : ∀ j, 0 ≤ x j
  s0 : ∀ i, i < D.m → 0 ≤ slack D x i
  val : fsum fac D.n x = t
  y0 : ∀ i, 0 ≤ y i
  z0 : ∀ j, 0 ≤ z j
  id : ∀ w, fsum fac D.n w = t + (sm D.n fun j => z (j + 1) * w (j + 1)) + sm D.m fun i => y i * slack D w i
  cy : ∀ i, i < D.m → y i = 0 ∨ slack D x i = 0
  cz : ∀ j, z j = 0 ∨ x j = 0
structure NoneC (D : Dat) (t : Rat) (y z : Nat → Rat) : Prop where
  t0 : 0 < t
  y0 : ∀ i, 0 ≤ y i
  z0 : ∀ j, 0 ≤ z j
  id : ∀ w, 0 = t + (sm D.n fun j => z (j + 1) * w (j + 1)) + sm D.m fun i => y i * slack D w i
structure EndC (D : Dat) (fac : List Int) (x w : Nat → Rat) : Prop where
  x0 : ∀ j, 0 ≤ x j
  s0 : ∀ i, i < D.m → 0 ≤ slack D x i
  w0 : ∀ j, 0 ≤ w j
  g0 : ∀ i, i < D.m → 0 ≤ grow D w i
  down : fsum fac D.n w < 0
section
variable {D : Dat} {N : Nat} {u : Tb}
end
end Lp

namespace Lp
/-! ### the whole road, as the program walks it -/
def Tb.fits (L : Nat) (t : Tb) : Bool := decide (t.den.natAbs ≤ L) && (t.rows.all fun r => r.all fun x => decide (x.natAbs ≤ L)) && (t.goal.all fun x => decide (x.natAbs ≤ L))
def Tb.lowerC (L : Nat) : Nat → Tb → Option (Tb × Option Nat)
  | 0, _ => none
  | f + 1, t => if t.fits L = true then match t.fall with
    | none => some (t, none)
    | some p => match t.leave p with
      | none => some (t, some p)
      | some i => Tb.lowerC L f (t.exch i (p - 1)) else none
def feas (L f : Nat) (t : Tb) : Option (Tb × Bool) :=
  if leastC t = 0 then some (t, true) else
  if t.help.fits L = true then match (t.help.exch (idxC t) t.tops.length).lowerC L f with
  | none => none
  | some (u, _) => if (0 : Int) ∈ u.heads then some (u, false) else some (u.dele (u.tops.idxOf 0), true) else none
inductive Low where
  | non (u : Tb)
  | endless (u : Tb) (p : Nat)
  | told (u : Tb)
def low (L f : Nat) (n : Nat) (A : List (List Int)) (fac : List Int) : Option Low :=
  match feas L f (Tb.init ⟨A.length, n, A⟩) with
  | none => none
  | some (u, false) => some (.non u)
  | some (u, true) => match (u.put fac).lowerC L f with
    | none => none
    | some (v, none) => some (.told v)
    | some (v, some p) => some (.endless v p)
/-- the numbers that are handed in -/
structure Fit (M : Nat) (A : List (List Int)) (fac : List Int) : Prop where
  one : 1 ≤ M
  A : ∀ r ∈ A, ∀ x ∈ r, x.natAbs ≤ M
  fac : ∀ x ∈ fac, x.natAbs ≤ M
section
variable {M n : Nat} {A : List (List Int)} {fac : List Int} (F : Fit M A fac)
include F
omit F in
end
end Lp

namespace Mv
open L2 PySem.Spec PySem PyProof.Rows SlX

/-! ### a tableau on the heap -/
def intsD (l : List Int) : D := .list (l.map .int)
def rowsD (l : List (List Int)) : D := .list (l.map intsD)
/-- the places of the slots -/
structure Sls where
  d : Nat
  t : Nat
  h : Nat
  r : Nat
  g : Nat
structure TbC (K : PySem.W.Frag) (C : Addr) (ix : Sls) : Prop where
  ob : ObC K "Tableau" C
  d : ∃ p, Slot1 K C "den" p ix.d
  t : ∃ p, Slot1 K C "tops" p ix.t
  h : ∃ p, Slot1 K C "heads" p ix.h
  r : ∃ p, Slot1 K C "rows" p ix.r
  g : ∃ p, Slot1 K C "goal" p ix.g
  nd : [ix.d, ix.t, ix.h, ix.r, ix.g].Nodup
/-- at a, its dict at dx, its lists at lt, lh; rows and goal frozen -/
structure TbIn (K : PySem.W.Frag) (C : Addr) (ix : Sls) (F H : Hp) (a dx lt lh : Addr) (vr vg : V) (vs : List (Option V)) (t : Lp.Tb) : Prop where
  ha : H a = some (SlO a C dx vs)
  hd : H dx = some (.xd [])
  sd : vs[ix.d]? = some (some (.int t.den))
  st : vs[ix.t]? = some (some (.ref lt))
  sh : vs[ix.h]? = some (some (.ref lh))
  sr : vs[ix.r]? = some (some vr)
  sg : vs[ix.g]? = some (some vg)
  ht : H lt = some (.lst (t.tops.map .int))
  hh : H lh = some (.lst (t.heads.map .int))
  ne : lt ≠ lh
  rows : Dp K F vr (rowsD t.rows)
  goal : Dp K F vg (intsD t.goal)
  fa : F a = none
  fd : F dx = none
  ft : F lt = none
  fh : F lh = none
structure TbAt (K : PySem.W.Frag) (C : Addr) (ix : Sls) (F0 H0 F H : Hp) (a : Addr) (t : Lp.Tb) : Prop where
  gr : Gr F0 H0 F H
  a0 : H0 a = none
  ex : ∃ dx lt lh vr vg vs, H0 dx = none ∧ H0 lt = none ∧ H0 lh = none ∧ TbIn K C ix F H a dx lt lh vr vg vs t
section
variable {K : PySem.W.Frag}
end
section
variable {K : PySem.W.Frag} {C a dx lt lh : Addr} {ix : Sls} {F0 H0 F H : Hp} {vr vg : V} {vs : List (Option V)} {t : Lp.Tb}
/-- behind a reading with all frozen that answers a number or nothing -/
theorem TbAt.after {F' H' : Hp} (A : TbAt K C ix F0 H0 F H a t) (hh : Same H H') : TbAt K C ix F0 H0 F H' a t := by
  obtain ⟨dx, lt, lh, vr, vg, vs, z1, z2, z3, T⟩ := A.ex
  refine ⟨⟨A.gr.ff, A.gr.fh.trans hh, A.gr.hh.trans hh, A.gr.nw⟩, A.a0, dx, lt, lh, vr, vg, vs, z1, z2, z3, ⟨hh _ _ T.ha, hh _ _ T.hd, T.sd, T.st, T.sh, T.sr, T.sg, hh _ _ T.ht, hh _ _ T.hh, T.ne, T.rows, T.goal, T.fa, T.fd, T.ft, T.fh⟩⟩
end
end Mv

namespace Mv
open L2 PySem.Spec PySem PyProof.Rows SlX

/-! ### methods that change a tableau -/
/-- where a tableau lies -/
structure Tq where
  a : Addr
  dx : Addr
  lt : Addr
  lh : Addr
def Tq.has (q : Tq) (b : Addr) : Prop := b = q.a ∨ b = q.dx ∨ b = q.lt ∨ b = q.lh
instance (q : Tq) (b : Addr) : Decidable (q.has b) := inferInstanceAs (Decidable (b = q.a ∨ b = q.dx ∨ b = q.lt ∨ b = q.lh))
def TbI (K : PySem.W.Frag) (C : Addr) (ix : Sls) (F H : Hp) (q : Tq) (t : Lp.Tb) : Prop := ∃ vr vg vs, TbIn K C ix F H q.a q.dx q.lt q.lh vr vg vs t
/-- the heap without the tableau -/
def cutq (H : Hp) (q : Tq) : Hp := fun b => if q.has b then none else H b
/-- the tableau may have changed, all else stays -/
def GrT (q : Tq) (F H F' H' : Hp) : Prop := Gr F (cutq H q) F' H'
theorem cutq_same {H : Hp} {q : Tq} : Same (cutq H q) H := fun b o e => by
  unfold cutq at e
  split at e
  · cases e
  · exact e
theorem cutq_ne {H : Hp} {q : Tq} {b : Addr} (h : ¬ q.has b) : cutq H q b = H b := by unfold cutq; rw [if_neg h]
theorem cutq_has {H : Hp} {q : Tq} {b : Addr} (h : q.has b) : cutq H q b = none := by unfold cutq; rw [if_pos h]
theorem GrT.refl {q : Tq} {F H : Hp} (s : Same F H) : GrT q F H F H := ⟨.refl _, s, cutq_same, fun _ _ h => .inl h⟩
theorem GrT.trans {q : Tq} {F H F1 H1 F2 H2 : Hp} (a : GrT q F H F1 H1) (b : GrT q F1 H1 F2 H2) : GrT q F H F2 H2 := by
  have key : ∀ x o, cutq H q x = some o → cutq H1 q x = some o := fun x o e => by
    by_cases hx : q.has x
    · rw [cutq_has hx] at e; cases e
    · rw [cutq_ne hx]; exact a.hh _ _ e
  refine ⟨a.ff.trans b.ff, b.fh, fun x o e => b.hh _ _ (key x o e), fun x o e => ?_⟩
  rcases b.nw x o e with h | h
  · exact a.nw x o h
  · refine .inr ?_
    cases e2 : cutq H q x with
    | none => rfl
    | some o2 => rw [key x o2 e2] at h; cases h
/-- all else has grown, the tableau as well -/
theorem GrT.of {q : Tq} {F H F' H' : Hp} (g : Gr F H F' H') : GrT q F H F' H' := ⟨g.ff, g.fh, fun b o e => g.hh _ _ (cutq_same _ _ e), fun b o e => (g.nw b o e).imp id fun h => by
  unfold cutq
  split
  · rfl
  · exact h⟩
section
variable {K : PySem.W.Frag} {C : Addr} {ix : Sls} {F H F' H' : Hp} {q : Tq} {t : Lp.Tb}
theorem TbI.up (T : TbI K C ix F H q t) (s : Same H H') : TbI K C ix F H' q t :=
  let ⟨vr, vg, vs, T⟩ := T
  ⟨vr, vg, vs, ⟨s _ _ T.ha, s _ _ T.hd, T.sd, T.st, T.sh, T.sr, T.sg, s _ _ T.ht, s _ _ T.hh, T.ne, T.rows, T.goal, T.fa, T.fd, T.ft, T.fh⟩⟩
theorem TbI.no (T : TbI K C ix F H q t) {b : Addr} (h : q.has b) : F b = none := by
  obtain ⟨vr, vg, vs, T⟩ := T
  rcases h with rfl | rfl | rfl | rfl
  · exact T.fa
  · exact T.fd
  · exact T.ft
  · exact T.fh
theorem TbI.is (T : TbI K C ix F H q t) {b : Addr} (h : q.has b) : H b ≠ none := by
  obtain ⟨vr, vg, vs, T⟩ := T
  rcases h with rfl | rfl | rfl | rfl
  · rw [T.ha]; exact fun z => nomatch z
  · rw [T.hd]; exact fun z => nomatch z
  · rw [T.ht]; exact fun z => nomatch z
  · rw [T.hh]; exact fun z => nomatch z
/-- a promise of a def that changes the tableau that is its first argument -/
def spT (K : PySem.W.Frag) (C : Addr) (ix : Sls) (R : Lp.Tb → List D → D → Lp.Tb → Prop) : Sp := fun vs H Q _ => ∃ (q : Tq) (vs' : List V) (F : Hp) (t : Lp.Tb) (ds : List D) (d : D) (t' : Lp.Tb),
  vs = .ref q.a :: vs' ∧ Same F H ∧ TbI K C ix F H q t ∧ DpAll K F vs' ds ∧ R t ds d t' ∧ ∀ F' H' v, GrT q F H F' H' → TbI K C ix F' H' q t' → Dp K F' v d → Q v H'
/-- a method -/
structure FnT (P : Program) (w : World) (K : PySem.W.Frag) (mg : Str → Option Value) (base : Heap) (C : Addr) (ix : Sls) (x : Str) (k : Nat) (R : Lp.Tb → List D → D → Lp.Tb → Prop) : Prop where
  ex : ∃ (f : Addr) (fd : FuncData) (ps : List Str), Meth K C x f ∧ FnG P w K mg base k f fd ps (spT K C ix R) ∧ Binds K fd ps []
/-- a def of the module -/
structure FnU (P : Program) (w : World) (K : PySem.W.Frag) (mg : Str → Option Value) (base : Heap) (C : Addr) (ix : Sls) (x : Str) (k : Nat) (R : Lp.Tb → List D → D → Lp.Tb → Prop) : Prop where
  ex : ∃ (f : Addr) (fd : FuncData) (ps : List Str), FnG P w K mg base k f fd ps (spT K C ix R) ∧ mg x = some (.ref f) ∧ PySem.W.keepIn K (.ref f) = true ∧ Binds K fd ps []
theorem FnT.mono {P : Program} {w : World} {mg : Str → Option Value} {base : Heap} {x : Str} {j k : Nat} {R : Lp.Tb → List D → D → Lp.Tb → Prop} (F : FnT P w K mg base C ix x j R) (h : j ≤ k) : FnT P w K mg base C ix x k R :=
  let ⟨f, fd, ps, h1, h2, h3⟩ := F.ex
  ⟨f, fd, ps, h1, h2.mono h, h3⟩
theorem FnU.mono {P : Program} {w : World} {mg : Str → Option Value} {base : Heap} {x : Str} {j k : Nat} {R : Lp.Tb → List D → D → Lp.Tb → Prop} (F : FnU P w K mg base C ix x j R) (h : j ≤ k) : FnU P w K mg base C ix x k R :=
  let ⟨f, fd, ps, h1, h2⟩ := F.ex
  ⟨f, fd, ps, h1.mono h, h2⟩
end
/-! ### a block, the heap's own parts named later -/
end Mv

namespace Mv
open L2 PySem.Spec PySem PyProof.Rows SlX
/-! ### C(e, ..), its __init__ kept by a promise without reprs -/
section
variable {X : Cx} {k : Nat} {C f : Addr} {fd : FuncData} {ps : List Str} {sp : Sp} {E : L2.St → XK} {x : Str} {p pos : Pos} {e : Expr} {es : List Expr} {t : TA}
end
end Mv

namespace Mv
open L2 PySem.Spec PySem PyProof.Rows
/-! ### defs with defaults: all of these left out -/
section
variable {K : PySem.W.Frag} {f : Addr} {fd : FuncData} {ps : List Str} {k : Nat} {sp : Sp} {E : L2.St → XK} {X : Cx} {x : Str} {p pos : Pos} {e : Expr} {es : List Expr} {t : TA}
end
structure FnBD (P : Program) (w : World) (K : PySem.W.Frag) (mg : Str → Option Value) (base : Heap) (x : Str) (k : Nat) (m : List D → List D → Option (Out × List D)) (dd : List D) : Prop where
  ex : ∃ (f : Addr) (fd : FuncData) (ps : List Str) (us0 : List Value) (vs0 : List V), FnG P w K mg base k f fd ps (spB K mg m) ∧ mg x = some (.ref f) ∧ PySem.W.keepIn K (.ref f) = true ∧ Binds K fd ps us0 ∧ Vals vs0 us0 ∧ ∀ F, DpAll K F vs0 dd
theorem FnBD.mono {P : Program} {w : World} {K : PySem.W.Frag} {mg : Str → Option Value} {base : Heap} {x : Str} {j k : Nat} {m : List D → List D → Option (Out × List D)} {dd : List D} (F : FnBD P w K mg base x j m dd) (h : j ≤ k) : FnBD P w K mg base x k m dd :=
  let ⟨f, fd, ps, us0, vs0, h1, h2⟩ := F.ex
  ⟨f, fd, ps, us0, vs0, h1.mono h, h2⟩
section
variable {X : Cx} {W : WX} {k : Nat} {x y : Str} {p py pos : Pos} {es : List Expr} {g : M (List D)} {mb : List D → List D → Option (Out × List D)}
end
section
variable {P : Program} {w : World} {K : PySem.W.Frag} {mg : Str → Option Value} {base : Heap} {x qual : Str} {st : Stmt} {f : Addr} {fd : FuncData} {N ps : List Str} {k : Nat}
end
/-- where it lies, its defaults known -/
structure AtD (K : PySem.W.Frag) (x : Str) (st : Stmt) (dd : List D) : Prop where
  ex : ∃ (f : Addr) (fd : FuncData) (dvs : List V), PySem.W.nsIn K mainGlobals x = some (some (.ref f)) ∧ FunD K x x (defArgs st) (defBody st) (defScope st) dvs [] f fd ∧ dvs ≠ [] ∧ (∀ F, DpAll K F dvs dd) ∧ dvs.length = dd.length
end Mv

namespace Mv
open L2 PySem.Spec PySem PyProof.Rows
/-! ### t = tuple(..); return (.., t.index(x)) -/
section
variable {X : Cx}
def Bs.kpt (B : Bs) (p : Addr) (o : HO) : Bs := { B with Kp := upd B.Kp p o }
variable {K : PySem.W.Frag} {mg : Str → Option Value} {B : Bs} {W : WX} {F F1 H : Hp} {σ : L2.St} {en : En} {p : Addr} {o : Obj} {vs : List V} {u : HO}
theorem Sim.kept (S : Sim K B σ en F H) (hp : H p = some (.frz o u)) (hk : B.Kp p = none) : Sim K (B.kpt p (.frz o u)) σ en F H where
  len := S.len
  sub := S.sub
  f0 := S.f0
  new := S.new
  kp := fun a x e => by
    by_cases ha : a = p
    · subst ha
      rw [show (B.kpt a (.frz o u)).Kp a = some (.frz o u) from upd_same] at e
      cases e
      exact hp
    · rw [show (B.kpt p (.frz o u)).Kp a = B.Kp a from upd_ne ha] at e
      exact S.kp _ _ e
  z := S.z
  val := S.val
  own := fun i b xs h => by
    obtain ⟨a, ws, h1, h2, h3, h4, h5, h6⟩ := S.own i b xs h
    refine ⟨a, ws, h1, h2, h3, h4, ?_, h6⟩
    have ha : a ≠ p := by
      rintro rfl
      rw [hp] at h2
      cases h2
    rw [show (B.kpt p (.frz o u)).Kp a = B.Kp a from upd_ne ha]
    exact h5
  apart := S.apart
theorem upd_none {H : Hp} {p a : Addr} {o : HO} (h : upd H p o a = none) : H a = none := by
  by_cases ha : a = p
  · subst ha
    rw [upd_same] at h
    cases h
  · rwa [upd_ne ha] at h
theorem Sim.unkept (S : Sim K (B.kpt p u) σ en F H) (hk : B.Kp p = none) : Sim K B σ en F H where
  len := S.len
  sub := S.sub
  f0 := S.f0
  new := S.new
  kp := fun a x e => S.kp _ _ (same_upd hk _ _ e)
  z := S.z
  val := S.val
  own := fun i b xs h => by
    obtain ⟨a, ws, h1, h2, h3, h4, h5, h6⟩ := S.own i b xs h
    exact ⟨a, ws, h1, h2, h3, h4, upd_none h5, h6⟩
  apart := S.apart
theorem Rl.unkept {v : V} {r : Sl} (h : Rl K (B.kpt p u) σ en F H v r) : Rl K B σ en F H v r := by
  cases r with
  | no => exact h
  | val d => exact h
  | own b xs =>
    obtain ⟨rfl, a, ws, rfl, h1, h2, h3, h4, h5⟩ := h
    exact ⟨rfl, a, ws, rfl, h1, h2, h3, upd_none h4, h5⟩
theorem PostS.kept {Dn : Ends} {r : R Fl} (hk : B.Kp p = none) (q : PostS K mg B W F Dn r) : PostS K mg (B.kpt p u) W F Dn r := by
  cases r with
  | ok a e =>
    cases a with
    | nx => exact fun σ' F' H' S s => q σ' F' H' (S.unkept hk) s
    | rt r => exact fun σ' F' H' v S s rv => q σ' F' H' v (S.unkept hk) s rv.unkept
    | bk => exact fun σ' F' H' S s => q σ' F' H' (S.unkept hk) s
    | ct => exact fun σ' F' H' S s => q σ' F' H' (S.unkept hk) s
  | exc c fs e => exact fun σ' F' H' cls d S s => q σ' F' H' cls d (S.unkept hk) s
  | bad => exact q
variable {e : Expr} {fx : M Sl} {apos cpos : Pos}
variable {eA : Expr} {fA fe : M Sl} {g : M (List D)} {es : List Expr}
end
end Mv

namespace Mv
open L2 PySem.Spec PySem PyProof.Rows
/-! ### dicts whose keys are tuples, nested too: made, not looked at -/
mutual
def nkOf : D → Option NestedKey
  | .int i => some (.num i)
  | .tuple ds => (nksOf ds).map .tup
  | _ => none
def nksOf : List D → Option (List NestedKey)
  | [] => some []
  | d :: ds => (nkOf d).bind fun k => (nksOf ds).map (k :: ·)
end
section
variable {X : Cx} {pins : List
                                                                                                              (Addr × Obj)} {σ : L2.St} {H : Hp} {s : Shared}
mutual
theorem nk_is (I : Inv X pins σ H s) : ∀ (d : D) (v : V) (u : Value) (k : NestedKey), Dp X.K H v d → RelV v u → nkOf d = some k → NestedIs s.heap k u
  | .int i, _, _, _, .int _, r, e => by
    obtain ⟨t, rfl⟩ := r
    rw [nkOf] at e
    cases e
    exact .int _ _
  | .tuple ds, _, u, k, .tup h1 h2, r, e => by
    obtain rfl : u = _ := r
    obtain ⟨its, rv, ⟨o, ho, hc, n, hd⟩, _⟩ := I.tuple h1
    rw [nkOf] at e
    cases hk : nksOf ds with
    | none => rw [hk] at e; cases e
    | some ks =>
      rw [hk] at e
      cases e
      exact .tup ho hc hd (nks_is I ds _ _ ks h2 (by simpa using rv) hk)
  | .none, _, _, _, _, _, e => by rw [nkOf] at e <;> first | cases e | (intros; simp)
  | .bool _, _, _, _, _, _, e => by rw [nkOf] at e <;> first | cases e | (intros; simp)
  | .str _, _, _, _, _, _, e => by rw [nkOf] at e <;> first | cases e | (intros; simp)
  | .list _, _, _, _, _, _, e => by rw [nkOf] at e <;> first | cases e | (intros; simp)
  | .dict _, _, _, _, _, _, e => by rw [nkOf] at e <;> first | cases e | (intros; simp)
theorem nks_is (I : Inv X pins σ H s) : ∀ (ds : List D) (vs : List V) (us : List Value) (ks : List NestedKey), DpAll X.K H vs ds → Vals vs us → nksOf ds = some ks → NestedAll s.heap ks us
  | [], _, _, _, .nil, .nil, e => by rw [nksOf] at e; cases e; exact .nil
  | d :: ds, _, _, _, .cons h1 h2, .cons r1 r2, e => by
    rw [nksOf] at e
    cases hk : nkOf d with
    | none => rw [hk] at e; cases e
    | some k =>
      rw [hk] at e
      cases hks : nksOf ds with
      | none => rw [hks] at e; cases e
      | some ks =>
        rw [hks] at e
        cases e
        exact .cons (nk_is I d _ _ k h1 r1 hk) (nks_is I ds _ _ ks h2 r2 hks)
end
def NkAt (K : PySem.W.Frag) (H : Hp) (b : Addr) (k : NestedKey) : Prop := ∃ kd, Dp K H (.ref b) kd ∧ nkOf kd = some k ∧ k.depth ≤ 8
theorem NkAt.is (I : Inv X pins σ H s) {b : Addr} {k : NestedKey} (h : NkAt X.K H b k) : (nestedKind X.prog X.w).is s.heap k b := let ⟨kd, d, e, l⟩ := h; ⟨nk_is I kd _ _ k d rfl e, l⟩
theorem NkAt.mono {K : PySem.W.Frag} {F F' : Hp} {b : Addr} {k : NestedKey} (e : Same F F') (h : NkAt K F b k) : NkAt K F' b k := let ⟨kd, d, n, l⟩ := h; ⟨kd, dp_mono e d, n, l⟩
end
section
variable {X : Cx}
end
/-! ### {k: v for ..}, k tuples -/
section
variable {X : Cx} {W : WX} {kx vx tg iter : Expr} {ifs : List Expr} {scope : Scope} {own : List (Str × Nat)} {pos : Pos} {it : M (List D)} {pat : D → En → Option En} {tt : M Bool} {ek ev : M Sl}
end
end Mv

namespace Mv
open L2 PySem.Spec PySem PyProof.Rows
/-! ### range(i, j, c) -/
section
variable {K : PySem.W.Frag} {Fk F : Hp}
end
section
variable {X : Cx} {W : WX} {tg a b c : Expr} {g : M (List D)} {p pos : Pos}
end
end Mv

namespace Mv
open L2 PySem.Spec PySem PyProof.Rows
/-! ### d = {}; for p in xs: d[k1] = True; d[k2] = True; ys = list(d): keys that are nested tuples, once each -/
def nkIn (ks : List D) (y : D) : Bool := ks.any fun z => decide (nkOf z = nkOf y)
def putN (ks : List D) (y : D) : List D := if nkIn ks y = true then ks else ks ++ [y]
def AR (K : PySem.W.Frag) (F : Hp) : List (NestedKey × Addr × Value) → List D → Prop
  | [], [] => True
  | a :: acc, d :: ks => (Dp K F (.ref a.2.1) d ∧ nkOf d = some a.1 ∧ a.1.depth ≤ 8) ∧ AR K F acc ks
  | _, _ => False
section
variable {K : PySem.W.Frag} {F F' : Hp}
theorem AR.mono (e : Same F F') : ∀ {acc : List (NestedKey × Addr × Value)} {ks : List D}, AR K F acc ks → AR K F' acc ks
  | [], [], h => h
  | _ :: _, _ :: _, h => ⟨⟨dp_mono e h.1.1, h.1.2⟩, AR.mono e h.2⟩
  | [], _ :: _, h => h.elim
  | _ :: _, [], h => h.elim
theorem AR.len : ∀ {acc : List (NestedKey × Addr × Value)} {ks : List D}, AR K F acc ks → acc.length = ks.length
  | [], [], _ => rfl
  | _ :: _, _ :: _, h => by rw [List.length_cons, List.length_cons, AR.len h.2]
  | [], _ :: _, h => h.elim
  | _ :: _, [], h => h.elim
theorem AR.isin {y : D} {k : NestedKey} (hy : nkOf y = some k) : ∀ {acc : List (NestedKey × Addr × Value)} {ks : List D}, AR K F acc ks → (atKey acc k).isSome = nkIn ks y
  | [], [], _ => rfl
  | a :: acc, d :: ks, h => by
    have ih := AR.isin hy h.2
    unfold atKey nkIn at *
    rw [Option.isSome_map] at ih ⊢
    rw [List.find?_cons, List.any_cons, ← ih, h.1.2.1, hy]
    by_cases e : a.1 = k
    · simp [e]
    · simp [e]
  | [], _ :: _, h => h.elim
  | _ :: _, [], h => h.elim
theorem AR.puts {k : NestedKey} {r : Value} : ∀ {acc : List (NestedKey × Addr × Value)} {ks : List D}, AR K F acc ks → AR K F (acc.map (putAt k r)) ks
  | [], [], h => h
  | a :: acc, d :: ks, h => by
    refine ⟨?_, AR.puts h.2⟩
    unfold putAt
    split <;> exact h.1
  | [], _ :: _, h => h.elim
  | _ :: _, [], h => h.elim
theorem AR.app {a : NestedKey × Addr × Value} {d : D} (ha : Dp K F (.ref a.2.1) d ∧ nkOf d = some a.1 ∧ a.1.depth ≤ 8) : ∀ {acc : List (NestedKey × Addr × Value)} {ks : List D}, AR K F acc ks → AR K F (acc ++ [a]) (ks ++ [d])
  | [], [], _ => ⟨ha, trivial⟩
  | _ :: _, _ :: _, h => ⟨h.1, AR.app ha h.2⟩
  | [], _ :: _, h => h.elim
  | _ :: _, [], h => h.elim
theorem AR.put {acc : List (NestedKey × Addr × Value)} {ks : List D} {y : D} {k : NestedKey} {b : Addr} {r : Value} (h : AR K F acc ks) (d : Dp K F (.ref b) y) (hy : nkOf y = some k) (hd : k.depth ≤ 8) : AR K F (storedH acc k b r) (putN ks y) := by
  have e := h.isin hy
  unfold storedH putN
  rw [e]
  split
  · exact h.puts
  · exact h.app ⟨d, hy, hd⟩
end
section
variable {X : Cx}
end
/-! ### a kept thing takes another form -/
section
variable {K : PySem.W.Frag} {B : Bs} {σ : L2.St} {en : En} {F F0 H : Hp} {a : Addr} {o1 o2 : HO}
end
section
variable {X : Cx}
end
section
variable {X : Cx} {W : WX} {tg k1 k2 : Expr} {rest : List Stmt} {h : MS} {pat : D → En → Option En} {vs : List Nat} {f1 f2 : M Sl} {x y z : Str} {l j dst : Nat} {p1 p2 p3 p4 p5 p6 p7 p8 p9 q1 q2 q3 q4 q5 q6 q7 q8 q9 : Pos} {c1 c2 : Nat}
end
end Mv

namespace Mv
open L2 PySem.Spec PySem PyProof.Rows
/-! ### own lists lent to a def that gives a tuple of numbers -/
section
variable {K : PySem.W.Frag} {B : Bs} {σ : L2.St} {en : En} {F F' H : Hp}
end
section
variable {X : Cx} {W : WX} {e : Expr} {es : List Expr} {x y : Str} {p py pos : Pos} {g : M (List Ag)} {k : Nat} {m : List D → Option Out} {f : M Sl}
end
end Mv

namespace Mv
open L2 PySem.Spec PySem PyProof.Rows

/-! ### repr of an exception of a class of the program, made of nothing -/
def excText (nm : Str) : Str := Str.ofString ((nm.toString.cutAt '.').getLastD "") ++ tupleText []
section
open Builtin Builtin.BaseException Builtin.Exceptions PySem.W
variable {prog : Program} {w : World} {h₀ : Heap} {K : Frag} {C e t0 : Addr} {nm : Str}
theorem exc_name {M : Model} {A : Around} {E : Value → Shared → Prop} {s : Shared} {Q : String → Shared → Prop} (x : ExcC K C e t0 s.heap) (c : (clsIn K C).map (·.name) = some nm) (q : Q nm.toString s) : wpAny M A (typeNameOfWhole (.ref e)) Q E s := by
  obtain ⟨cd, hc, hn⟩ := Option.map_eq_some_iff.mp c
  unfold clsIn at hc
  split at hc
  · rename_i c' d' cd' sl' ho
    cases hc
    unfold typeNameOfWhole
                                                                                                                  shownTypeOf
    refine wpAny_bind (wpAny_bind (x.LT.here ?_))
    have hne : (Value.ref C == Value.type "builtin_function_or_method") = false := rfl
    simp only [hne,
                                                                                                                  Bool.false_eq_true, if_false]
    refine wpAny_pure ?_
    unfold typeNameWhole classData
    refine wpAny_bind (wpAny_bind (wpAny_load (x.1 _ _ ho) (wpAny_pure (wpAny_pure ?_))))
    rw [hn]
    exact q
  · cases hc
theorem exc_body {A : Around} {g : List Code} {E : Value → Shared → Prop} {s : Shared} {Q : Fin → Shared → Prop} {base : Nat} (x : ExcC K C e t0 s.heap) (ht : s.heap.TupAt t0 []) (c : (clsIn K C).map (·.name) = some nm)
    (hg : A.guards = some g) (hcl : Clear g t0) (hu : A.units + 1 < cLine) (hb : base + (excText nm).length ≤ sizeLine)
    (q : ∀ h' u tk, (∀ b o, s.heap.get? b = some o → h'.get? b = some o) → Q (.done (.ret (.str (excText nm) u))) { s with heap := h', toks := tk }) :
    wpAny (model prog w) A (Builtin.bexcReprAt base ⟨[.ref e], []⟩) Q E s := by
  unfold excText at hb q
  rw [strLen_append] at hb
  obtain ⟨o, k, ho, hc, hd⟩ := id ht
  have r : ReprK prog w [t0] s.heap (0 + 1) (.ref t0) (tupleText []) := .tuple (as := []) ho hc hd (by simp) .nil
  generalize tupleText [] = tt at r q hb
  unfold Builtin.bexcReprAt
  refine wpAny_bind (m := slotArgs _ _ _) (wpAny_pure ?_)
  refine wpAny_bind (exc_name x c ?_)
  refine wpAny_bind (bexcArgs_C x ht ?_)
  refine wpAny_bind (m := pyReprUnder _ _) ?_
  generalize Str.ofString ((nm.toString.cutAt '.').getLastD "") = N at q hb ⊢
  refine r (base + N.length) (by omega) A g E s _ hg (fun b hb => by
    rw [List.mem_singleton.mp hb]
    exact hcl) (by omega) (fun _ _ z => z) fun h' tk hk => ?_
  unfold retStr
  exact wpAny_bind (wpAny_mkStr (wpAny_pure (q _ _ _ hk)) (by rw [strLen_append]; omega))
theorem exc_special {A : Around} {E : Value → Shared → Prop} {s : Shared} {Q : Option Value → Shared → Prop} (x : ExcC K C e t0 s.heap) (hs : findIn K (.ref C) "__repr__" = some (some (.builtin "BaseException.__repr__")))
    (q : Q (some (.builtin "BaseException.__repr__")) s) : wpAny (model prog w) A (specialOf (.ref e) (Str.ofString "__repr__")) Q E s := by
  have hf : Looks (model prog w) s.heap (typeLookup (.ref C) "__repr__") (some (.builtin "BaseException.__repr__")) := looks_findIn x.1 hs
  unfold specialOf
  exact wpAny_bind (x.LT.here (hf.here q))
/-- typeLookup of __repr__, met twice -/
theorem exc_bind {A : Around} {E : Value → Shared → Prop} {s : Shared} {last : Value → List Value → Sem Value} {Q : Option Value → Shared → Prop} (x : ExcC K C e t0 s.heap) (hs : findIn K (.ref C) "__repr__" = some (some (.builtin "BaseException.__repr__")))
    (hc : wpAny (model prog w) A (last (.builtin "BaseException.__repr__") [.ref e]) (fun v => Q (some v)) E s) : wpAny (model prog w) A (callSpecialIfBoundBy? last (.ref e) (Str.ofString "__repr__")) Q E s := by
  have hf : Looks (model prog w) s.heap (typeLookup (.ref C) "__repr__") (some (.builtin "BaseException.__repr__")) := looks_findIn x.1 hs
  have hb : bindSpecial (.builtin "BaseException.__repr__") (.ref e) = pure (.builtin "BaseException.__repr__", [.ref e]) := PySem.F.excStr_Exception.repr.bind _
  simp only [callSpecialIfBoundBy?, bindSpecialIfBound?, specialOf]
  refine wpAny_holding (wpAny_bind (wpAny_bind (wpAny_bind (x.LT.here (hf.here ?_)))))
  simp only [hb]
  refine wpAny_bind
                                                                                                                (wpAny_askSetting (wpAny_ite ?_))
  have fin : wpAny (model prog w) A (last (.builtin "BaseException.__repr__") [.ref e] >>= fun v => pure (some v)) Q E s :=
    wpAny_bind (wpAny_mono hc (fun v s' h' =>
                                                                                                                  wpAny_pure h') fun _ _ h' => h')
  split
  · exact wpAny_bind
                                                                                                                  (wpAny_pure (wpAny_pure fin))
  · exact wpAny_tryCatch (wpAny_bind
                                                                                                                  (wpAny_pure (wpAny_pure fin)))
theorem exc_check {A : Around} {E : Value → Shared → Prop} {s : Shared} {Q : Unit → Shared → Prop} (x : ExcC K C e t0 s.heap) (hB : subIn K (.ref C) (.type "BaseException") = some true) (q : Q () s) : wpAny (model prog w) A (checkBuiltinCall "BaseException.__repr__" ⟨[.ref e], []⟩) Q E s :=
  @PySem.W.check_slot (model prog w) _ _ s "BaseException.__repr__" "BaseException" "__repr__" (.ref e) [] [] _ (by decide +kernel) (by decide +kernel) (x.LI hB) (PySem.F.args_bexc_repr _) q
theorem exc_obj_under {A : Around} {g : List Code} {E : Value → Shared → Prop} {s : Shared} {Q : Value → Shared → Prop} {base : Nat} (x : ExcC K C e t0 s.heap) (ht : s.heap.TupAt t0 []) (c : (clsIn K C).map (·.name) = some nm)
    (hs : findIn K (.ref C) "__repr__" = some (some (.builtin "BaseException.__repr__"))) (hB : subIn K (.ref C) (.type "BaseException") = some true)
    (hg : A.guards = some g) (hcl : Clear g t0) (hu : A.units + 2 < cLine) (hb : base + (excText nm).length ≤ sizeLine)
    (q : ∀ h' u tk, (∀ b o, s.heap.get? b = some o → h'.get? b = some o) → Q (.str (excText nm) u) { s with heap := h', toks := tk }) :
    wpAny (model prog w) A (pyReprObjUnder base (.ref e)) Q E s := by
  have hf : Looks (model prog w) s.heap (typeLookup (.ref C) "__repr__") (some (.builtin "BaseException.__repr__")) := looks_findIn x.1 hs
  unfold pyReprObjUnder
                                                                                                                pyReprObjBy
  refine wpAny_bind
                                                                                                                (wpAny_cRoomFor (by omega) ?_)
  refine wpAny_bind (exc_special x hs ?_)
  refine wpAny_bind (exc_bind x hs ?_)
  have htw : reprUnder? (.builtin "BaseException.__repr__") = some (.builtin "BaseException.__repr__.under") := by rfl
  simp only [htw]
  refine wpAny_call (codeAny_call_builtin PySem.F.plain_bexc_repr_under PySem.F.entry_bexc_repr_under ?_)
  rw [PySem.F.check_bexc_repr_under]
  refine wpAny_pure ?_
  show wpAny _ _ (reprTwin "BaseException.__repr__" bexcReprAt ⟨[.ref e, rawInt base], []⟩) _ _ _
  rw [reprTwin_eq]
  refine wpAny_bind (exc_check x hB (exc_body x ht c hg hcl (by show A.units + 1 + 1 < cLine; omega) hb fun h' u tk hk => ?_))
  exact wpAny_bind (wpAny_isInstance (T := "str") (b := true) rfl isSubtype_str_str (wpAny_pure (q h' u tk hk)))
theorem exc_top {A : Around} {g : List Code} {E : Value → Shared → Prop} {s : Shared} {Q : Value → Shared → Prop} (x : ExcC K C e t0 s.heap) (ht : s.heap.TupAt t0 []) (c : (clsIn K C).map (·.name) = some nm)
    (hs : findIn K (.ref C) "__repr__" = some (some (.builtin "BaseException.__repr__"))) (hB : subIn K (.ref C) (.type "BaseException") = some true)
    (hg : A.guards = some g) (hcl : Clear g t0) (hu : A.units + 3 < cLine) (hb : (excText nm).length ≤ sizeLine)
    (q : ∀ h' u tk, (∀ b o, s.heap.get? b = some o → h'.get? b = some o) → Q (.str (excText nm) u) { s with heap := h', toks := tk }) :
    wpAny (model prog w) A (call (.builtin "repr") [.ref e]) Q E s := by
  have hf : Looks (model prog w) s.heap (typeLookup (.ref C) "__repr__") (some (.builtin "BaseException.__repr__")) := looks_findIn x.1 hs
  refine Calls.call_function_entry PySem.F.kind_repr PySem.F.plain_repr PySem.F.entry_repr
                                                                                                                (PySem.F.args_repr1 _) ?_
  unfold Builtin.«repr»
  refine wpAny_bind (m :=
                                                                                                                oneArg "repr" _) (wpAny_pure ?_)
  refine wpAny_bind (m := cRoomFor _ _) (wpAny_cRoomFor (by show A.units + 1 < cLine; omega) ?_)
  refine wpAny_bind (exc_special x hs ?_)
  refine wpAny_bind (m := callSpecialIfBoundBy? (fun g first => call g (first ++ [])) _ _) (exc_bind x hs ?_)
  show wpAny _ _ (call (.builtin "BaseException.__repr__") [.ref e]) _ _ _
  refine wpAny_call (codeAny_call_builtin PySem.F.excStr_Exception.repr.plain PySem.F.entry_bexc_repr (exc_check x hB ?_))
  refine exc_body (base := 0) x ht c hg hcl (by show A.units + 1 + 1 + 1 < cLine; omega) (by omega) fun h' u tk hk => ?_
  exact wpAny_bind (wpAny_isInstance (T := "str") (b := true) rfl isSubtype_str_str (wpAny_pure ⟨_, rfl, q h' u tk hk⟩))
end
end Mv

namespace Mv
open L2 PySem.Spec PySem PyProof.Rows

/-! ### repr of nested data: lists, tuples, dicts whose keys are ints and texts, exceptions made of nothing -/
def isExc : List (D × D) → Option Str
  | [(.none, .str nm)] => some nm
  | _ => none
def xKey : D → Bool
  | .int i => decide
                                                                                                                (i.natAbs.log2 < 1920)
  | .str _ | .none => true
  | _ => false
mutual
def xB : D → Bool
  | .none | .bool _ |
                                                                                                                .str _ => true
  | .int i => decide
                                                                                                                (i.natAbs.log2 < 1920)
  | .list xs => xBs xs
  | .tuple xs => xBs xs
  | .dict kvs => xKv kvs
def xBs : List D → Bool
  | [] => true
  | x :: xs => xB x && xBs xs
def xKv : List (D × D) → Bool
  | [] => true
  | (k, v) :: r => xKey k && xB v && xKv r
end
mutual
def shX : D → Str
  | .list xs => listText (shXs xs)
  | .tuple xs => tupleText (shXs xs)
  | .dict kvs => match isExc kvs with
    | some nm => excText nm
    | none => dictText (shKv kvs)
  | .none => PyData.shown .none
  | .bool b => PyData.shown (.bool b)
  | .int i => PyData.shown (.int i)
  | .str x => PyData.shown (.str x)
def shXs : List D → List Str
  | [] => []
  | x :: xs => shX x :: shXs xs
def shKv : List (D × D) → List Str
  | [] => []
  | (k, v) :: r => (PyData.shown k ++ ": " ++ shX v) :: shKv r
end
mutual
def hgX : D → Nat
  | .list xs => hgXs xs + 1
  | .tuple xs => hgXs xs + 1
  | .dict kvs => hgKv kvs + 1
  | .none | .bool _ |
                                                                                                                .int _ | .str _ => 0
def hgXs : List D → Nat
  | [] => 0
  | x :: xs => max (hgX x) (hgXs xs)
def hgKv : List (D × D) → Nat
  | [] => 0
  | (_, v) :: r => max (hgX v) (hgKv r)
end
inductive XrK (h : Heap) : Value → D → Prop
  | int (i : Int) (t : Tok) : XrK h (.int i t) (.int i)
  | str (x : Str) (t : Tok) : XrK h (.str x t) (.str x)
mutual
inductive Xr (h : Heap) : Value → D → Prop
  | non : Xr h .none .none
  | bl (b : Bool) : Xr h (.bool b) (.bool b)
  | int (i : Int) (t : Tok) : Xr h (.int i t) (.int i)
  | str (x : Str) (t : Tok) : Xr h (.str x t) (.str x)
  | lst {a : Addr} {o : Obj} {us : Array Value} {n : Nat} {ds : List D} : h.get? a = some o → o.cls = .type "list" → o.data = .seq us n → XrAll h us.toList ds → Xr h (.ref a) (.list ds)
  | tup {a : Addr} {o : Obj} {us : Array Value} {n : Nat} {ds : List D} : h.get? a = some o → o.cls = .type "tuple" → o.data = .seq us n → XrAll h us.toList ds → Xr h (.ref a) (.tuple ds)
  | dic {a : Addr} {o : Obj} {es : Array DictEntry} {n : Nat} {kvs : List (D × D)} : h.get? a = some o → o.cls = .type "dict" → o.data = .dict es n → (a == sysModules) = false → isExc kvs = none → XrKv h es.toList kvs → Xr h (.ref a) (.dict kvs)
  | exc {K : PySem.W.Frag} {a C t : Addr} {nm : Str} : ExcC K C a t h → h.TupAt t [] → (PySem.W.clsIn K C).map (·.name) = some nm → PySem.W.findIn K (.ref C) "__repr__" = some (some (.builtin "BaseException.__repr__")) → PySem.W.subIn K (.ref C) (.type "BaseException") = some true → Xr h (.ref a) (excD nm)
inductive XrAll (h : Heap) : List Value → List D → Prop
  | nil : XrAll h [] []
  | cons {v : Value} {vs : List Value} {d : D} {ds : List D} : Xr h v d → XrAll h vs ds → XrAll h (v :: vs) (d :: ds)
inductive XrKv (h : Heap) : List DictEntry → List (D × D) → Prop
  | nil : XrKv h [] []
  | cons {e : DictEntry} {es : List DictEntry} {k v : D} {r : List (D × D)} : XrK h e.key k → Xr h e.val v → XrKv h es r → XrKv h (e :: es) ((k, v) :: r)
end
section
variable {h : Heap}
mutual
theorem Xr.one : ∀ {d d' : D} {v : Value}, Xr h v d → Xr h v d' → hgX d = hgX d'
  | .none, _, _, .non, .non => rfl
  | .bool _, _, _, .bl _, .bl _ => rfl
  | .int _, _, _, .int _ _, .int _ _ => rfl
  | .str _, _, _, .str _ _, .str _ _ => rfl
  | .list _, _, _, .lst h1 h2 h3 h4, y => by
    cases y with
    | lst g1 g2 g3 g4 =>
      rw [h1] at g1; cases g1
      rw [h3] at g3; cases g3
      simp only [hgX, XrAll.one h4 g4]
    | tup g1 g2 g3 g4 =>
      rw [h1] at g1; cases g1
      rw [h2] at g2; exact absurd (Value.type.inj g2) (by decide)
    | dic g1 g2 g3 _ _ g4 =>
      rw [h1] at g1; cases g1
      rw [h2] at g2; exact absurd (Value.type.inj g2) (by decide)
    | exc g1 _ _ _ _ =>
      obtain ⟨_, o', vs, k1, k2, _⟩ := g1
      rw [h1] at k1; cases k1
      rw [h2] at k2; cases k2
  | .tuple _, _, _, .tup h1 h2 h3 h4, y => by
    cases y with
    | tup g1 g2 g3 g4 =>
      rw [h1] at g1; cases g1
      rw [h3] at g3; cases g3
      simp only [hgX, XrAll.one h4 g4]
    | lst g1 g2 g3 g4 =>
      rw [h1] at g1; cases g1
      rw [h2] at g2; exact absurd (Value.type.inj g2) (by decide)
    | dic g1 g2 g3 _ _ g4 =>
      rw [h1] at g1; cases g1
      rw [h2] at g2; exact absurd (Value.type.inj g2) (by decide)
    | exc g1 _ _ _ _ =>
      obtain ⟨_, o', vs, k1, k2, _⟩ := g1
      rw [h1] at k1; cases k1
      rw [h2] at k2; cases k2
  | .dict _, _, _, .dic h1 h2 h3 _ _ h4, y => by
    cases y with
    | dic g1 g2 g3 _ _ g4 =>
      rw [h1] at g1; cases g1
      rw [h3] at g3; cases g3
      simp only [hgX, XrKv.one h4 g4]
    | tup g1 g2 g3 g4 =>
      rw [h1] at g1; cases g1
      rw [h2] at g2; exact absurd (Value.type.inj g2) (by decide)
    | lst g1 g2 g3 g4 =>
      rw [h1] at g1; cases g1
      rw [h2] at g2; exact absurd (Value.type.inj g2) (by decide)
    | exc g1 _ _ _ _ =>
      obtain ⟨_, o', vs, k1, k2, _⟩ := g1
      rw [h1] at k1; cases k1
      rw [h2] at k2; cases k2
  | _, _, _, .exc g1 _ _ _ _, y => by
    obtain ⟨_, o', vs, k1, k2, k3, _⟩ := g1
    cases y with
    | dic g1 g2 g3 _ _ g4 =>
      rw [g1] at k1; cases k1
      rw [g2] at k2; cases k2
    | tup g1 g2 g3 g4 =>
      rw [g1] at k1; cases k1
      rw [g2] at k2; cases k2
    | lst g1 g2 g3 g4 =>
      rw [g1] at k1; cases k1
      rw [g2] at k2; cases k2
    | exc _ _ _ _ _ => simp only [excD, hgX, hgKv]
theorem XrAll.one : ∀ {ds ds' : List D} {vs : List Value}, XrAll h vs ds → XrAll h vs ds' → hgXs ds = hgXs ds'
  | [], _, _, .nil, .nil => rfl
  | _ :: _, _, _, .cons a b, .cons a' b' => by simp only [hgXs, Xr.one a a', XrAll.one b b']
theorem XrKv.one : ∀ {ds ds' : List (D × D)} {es : List DictEntry}, XrKv h es ds → XrKv h es ds' → hgKv ds = hgKv ds'
  | [], _, _, .nil, .nil => rfl
  | _ :: _, _, _, .cons _ a b, .cons _ a' b' => by simp only [hgKv, Xr.one a a', XrKv.one b b']
end
end
section
variable {prog :
                                                                                                              Program} {w : World} {h₀ : Heap}
def AtMost (h : Heap) (n : Nat) (bs : List Addr) : Prop := ∀ b ∈ bs, ∃ d, Xr h (.ref b) d ∧ hgX d ≤ n
theorem AtMost.mono {h : Heap} {n m : Nat} {bs : List Addr} (x : AtMost h n bs) (l : n ≤ m) : AtMost h m bs := fun b hb => let ⟨d, r, k⟩ := x b hb; ⟨d, r, Nat.le_trans k l⟩
theorem AtMost.app {h : Heap} {n : Nat} {bs cs : List Addr} (x : AtMost h n bs) (y : AtMost h n cs) : AtMost h n (bs ++ cs) := fun b hb => by
  rcases List.mem_append.mp hb with z | z
  · exact x b z
  · exact y b z
theorem AtMost.cons {h : Heap} {n : Nat} {b : Addr} {bs : List Addr} {d : D} (r : Xr h (.ref b) d) (l : hgX d ≤ n) (y : AtMost h n bs) : AtMost h n (b :: bs) := fun c hc => by
  rcases List.mem_cons.mp hc with z | z
  · rw [z]; exact ⟨d, r, l⟩
  · exact y c z
theorem AtMost.off {h : Heap} {n : Nat} {a : Addr} {bs : List Addr} {d : D} (x : AtMost h n bs) (r : Xr h (.ref a) d) (l : n < hgX d) : a ∉ bs := fun z => by
  obtain ⟨d', r', k⟩ := x a z
  rw [r.one r'] at l
  omega
def XT (prog : Program) (w : World) (h₀ : Heap) (v : Value) (n : Nat) (x : Str) : Prop := ∃ bs, AtMost h₀ n bs ∧ ReprK prog w bs h₀ (2 * n) v x
def XTs (prog : Program) (w : World) (h₀ : Heap) (vs : List Value) (n : Nat) (xs : List Str) : Prop := ∃ bs, AtMost h₀ n bs ∧ ReprAllK prog w bs h₀ (2 * n) vs xs
def XTk (prog : Program) (w : World) (h₀ : Heap) (es : List DictEntry) (n : Nat) (xs : List Str) : Prop := ∃ bs, AtMost h₀ n bs ∧ ReprEntriesK prog w bs h₀ (2 * n) es xs
theorem ents_more {as as' : List Addr} {d d' : Nat} (hsub : ∀ b ∈ as, b ∈ as') (hd : d ≤ d') : ∀ {l : List DictEntry} {ts : List Str}, ReprEntriesK prog w as h₀ d l ts → ReprEntriesK prog w as' h₀ d' l ts
  | _, _, .nil => .nil
  | _, _, .cons hx hy hl => .cons ((hx.more hsub).level_le hd) ((hy.more hsub).level_le hd) (ents_more hsub hd hl)
theorem xt_of {v : Value} {n : Nat} {x : Str} (r : ∀ as : List Addr, ReprK prog w as h₀ (2 * n) v x) : XT prog w h₀ v n x := ⟨[], (fun _ no => nomatch no), r []⟩
theorem key_text {v : Value} {k : D} (r : XrK h₀ v k) (b : xKey k = true) (z : k.shown.length ≤ sizeLine) (as : List Addr) (n : Nat) : ReprK prog w as h₀ n v k.shown := by
  cases r with
  | int i t => simp only [PyData.shown]; exact .of_is (ReprIs.int t (by simpa [xKey] using b)) _ _ _
  | str x t => simp only [PyData.shown] at z ⊢; exact .of_is (ReprIs.str x t z) _ _ _
mutual
theorem xt_k : ∀ {d : D} {v : Value}, Xr h₀ v d → xB d = true → (shX d).length ≤ sizeLine → XT prog w h₀ v (hgX d) (shX d)
  | .none, _, .non, _, _ => xt_of fun as => by simp only [shX, PyData.shown]; exact .of_is ReprIs.none as h₀ _
  | .bool b, _, .bl _, _, _ => xt_of fun as => by simp only [shX, PyData.shown]; exact .of_is (ReprIs.bool b) as h₀ _
  | .int i, _, .int _ t, g, _ => xt_of fun as => by
    simp only [shX, PyData.shown]
    exact .of_is (ReprIs.int t (by simpa [xB] using g)) _ _ _
  | .str x, _, .str _ t, _, z => xt_of fun as => by
    simp only [shX, PyData.shown] at z ⊢
    exact .of_is (ReprIs.str x t z) as h₀ _
  | .list ds, _, .lst (us := us) ha hc hd r, g, z => by
    have z' : (listText (shXs ds)).length ≤ sizeLine := by simpa only [shX] using z
    obtain ⟨bs, hb, k⟩ := xt_ks r (by simpa only [xB] using g) fun x hx => Nat.le_trans (listText_mem_le hx) z'
    have rd : Xr h₀ _ (.list ds) := .lst ha hc hd r
    have off := hb.off rd (by simp only [hgX]; omega)
    refine ⟨_ :: bs, .cons rd (Nat.le_refl _) (hb.mono (by simp only [hgX]; omega)), ?_⟩
    simp only [hgX, shX]
    obtain ⟨us⟩ := us
    cases us with
    | nil =>
      have r : XrAll h₀ [] ds := r
      cases r
      simp only [shXs, listText_nil]
      exact .listEmpty ha hc hd
    | cons u us => exact (ReprK.list ha hc hd off (by simpa using k.length_eq) fun i y e => k.item i y (by simpa using e)).level_le (by omega)
  | .tuple ds, _, .tup ha hc hd r, g, z => by
    have z' : (tupleText (shXs ds)).length ≤ sizeLine := by simpa only [shX] using z
    obtain ⟨bs, hb, k⟩ := xt_ks r (by simpa only [xB] using g) fun x hx => Nat.le_trans (tupleText_mem_le hx) z'
    have rd : Xr h₀ _ (.tuple ds) := .tup ha hc hd r
    have off := hb.off rd (by simp only [hgX]; omega)
    refine ⟨_ :: bs, .cons rd (Nat.le_refl _) (hb.mono (by simp only [hgX]; omega)), ?_⟩
    simp only [hgX, shX]
    exact (ReprK.tuple ha hc hd off k).level_le (by omega)
  | .dict kvs, _, .dic ha hc hd hs hn r, g, z => by
    have e : shX (.dict kvs) = dictText (shKv kvs) := by simp only [shX, hn]
    rw [e] at z ⊢
    obtain ⟨bs, hb, k⟩ := xt_kv r (by simpa only [xB] using g) fun x hx => Nat.le_trans (dictText_mem_le hx) z
    have rd : Xr h₀ _ (.dict kvs) := .dic ha hc hd hs hn r
    have off := hb.off rd (by simp only [hgX]; omega)
    refine ⟨_ :: bs, .cons rd (Nat.le_refl _) (hb.mono (by simp only [hgX]; omega)), ?_⟩
    simp only [hgX]
    exact (ReprK.dict ha hc hd hs off k).level_le (by omega)
  | _, _, .exc (t := t) x ht c hs hB, _, z => by
    have e : ∀ nm, shX (excD nm) = excText nm := fun nm => by simp only [excD, shX, isExc]
    rw [e] at z ⊢
    have hg1 : ∀ nm, hgX (excD nm) = 1 := fun nm => by simp only [excD, hgX, hgKv]; rfl
    rw [hg1]
    obtain ⟨o, k, ho, hc, hd⟩ := id ht
    have rt : Xr h₀ (.ref t) (.tuple []) := .tup ho hc hd .nil
    refine ⟨[t], .cons rt (by simp [hgX, hgXs]) (fun _ no => nomatch no), ?_⟩
    intro base hb A g E s
    intro Q hg hcl hu hk0 hQ
    have x' : ExcC _ _ _ t s.heap := ⟨x.1.keeps hk0, by
      obtain ⟨_, o', vs', a1, a2, a3, a4⟩ := x
      exact ⟨o', vs', hk0 _ _ a1, a2, a3, a4⟩⟩
    exact wpAny_pyReprUnder_ref (by omega) (exc_obj_under x' ⟨o, k, hk0 _ _ ho, hc, hd⟩ c hs hB hg (hcl t (List.mem_singleton.mpr rfl)) (by omega) hb fun h' u tk hk => ⟨_, _, rfl, hQ h' tk hk⟩)
theorem xt_ks : ∀ {ds : List D} {vs : List Value}, XrAll h₀ vs ds → xBs ds = true → (∀ x ∈ shXs ds, x.length ≤ sizeLine) → XTs prog w h₀ vs (hgXs ds) (shXs ds)
  | [], _, .nil, _, _ => ⟨[], (fun _ no => nomatch no), by simp only [shXs]; exact .nil⟩
  | d :: ds, _, .cons r rs, g, z => by
    have g' : xB d = true ∧ xBs ds = true := by simpa only [xBs, Bool.and_eq_true] using g
    simp only [shXs] at z
    obtain ⟨bs, r1, k1⟩ := xt_k r g'.1 (z _ List.mem_cons_self)
    obtain ⟨cs, r2, k2⟩ := xt_ks rs g'.2 fun x hx => z x (List.mem_cons_of_mem _ hx)
    simp only [hgXs, shXs]
    exact ⟨bs ++ cs, (r1.mono (Nat.le_max_left _ _)).app (r2.mono (Nat.le_max_right _ _)),
      .cons ((k1.more fun _ z => List.mem_append_left cs z).level_le (by omega)) (k2.more_le (fun _ z => List.mem_append_right bs z) (by omega))⟩
theorem xt_kv : ∀ {ds : List (D × D)} {es : List DictEntry}, XrKv h₀ es ds → xKv ds = true → (∀ x ∈ shKv ds, x.length ≤ sizeLine) → XTk prog w h₀ es (hgKv ds) (shKv ds)
  | [], _, .nil, _, _ => ⟨[], (fun _ no => nomatch no), by simp only [shKv]; exact .nil⟩
  | (k, d) :: ds, _, .cons rk r rs, g, z => by
    have g' : (xKey k = true ∧ xB d = true) ∧ xKv ds = true := by simpa only [xKv, Bool.and_eq_true] using g
    simp only [shKv] at z
    have z0 := z _ List.mem_cons_self
    rw [strLen_append, strLen_append] at z0
    obtain ⟨bs, r1, k1⟩ := xt_k r g'.1.2 (by omega)
    obtain ⟨cs, r2, k2⟩ := xt_kv rs g'.2 fun x hx => z x (List.mem_cons_of_mem _ hx)
    simp only [hgKv, shKv]
    exact ⟨bs ++ cs, (r1.mono (Nat.le_max_left _ _)).app (r2.mono (Nat.le_max_right _ _)),
      .cons (key_text rk g'.1.1 (by omega) _ _) ((k1.more fun _ z => List.mem_append_left cs z).level_le (by omega)) (ents_more (fun _ z => List.mem_append_right bs z) (by omega) k2)⟩
end
/-- repr of what stands on the heap -/
theorem xt_ref {A : Around} {E : Value → Shared → Prop} {s : Shared} {Q : Value → Shared → Prop} {a : Addr} {d : D} (r : Xr h₀ (.ref a) d) (g : xB d = true) (z : (shX d).length ≤ sizeLine)
    (gs : A.guards = some []) (room : A.units + (2 * hgX d + 2) < cLine) (keep : ∀ b o, h₀.get? b = some o → s.heap.get? b = some o) (q : ∀ h' u tk, (∀ b o, s.heap.get? b = some o → h'.get? b = some o) → Q (.str (shX d) u) { s with heap := h', toks := tk }) :
    wpAny (model prog w) A (call (.builtin "repr") [.ref a]) Q E s := by
  have gs1 : A.in1.guards = some [] := gs
  have un1 : A.in1.units = A.units + 1 := rfl
  cases r with
  | @lst _ o us n ds ha hc hd r =>
    have z' : (listText (shXs ds)).length ≤ sizeLine := by simpa only [shX] using z
    obtain ⟨bs, rb, k⟩ := xt_ks (prog := prog) (w := w) r (by simpa only [xB] using g) fun x hx => Nat.le_trans (listText_mem_le hx) z'
    have rd : Xr h₀ (.ref a) (.list ds) := .lst ha hc hd r
    simp only [hgX] at room
    have off : a ∉ bs := rb.off rd (by simp only [hgX]; omega)
    simp only [shX] at q
    refine call_repr_slot (by omega) ⟨o, keep _ _ ha, hc⟩ PySem.F.slot_list_repr.toG ?_
    obtain ⟨us⟩ := us
    cases us with
    | nil =>
      have r : XrAll h₀ [] ds := r
      cases r
      simp only [shXs, listText_nil] at q
      exact call_list_repr_empty ⟨o, keep _ _ ha, hc⟩ (keep _ _ ha) hd ⟨_, _, rfl, q _ _ _ fun _ _ e => e⟩
    | cons u us =>
      exact call_list_reprK ha hc hd off (by simpa using k.length_eq) (fun i y e => k.item i y (by simpa using e)) gs1 (fun b _ => Clear.nil b) (by omega) keep (fun h' u tk e => ⟨_, _, rfl, q h' u tk e⟩) z'
  | @tup _ o us n ds ha hc hd r =>
    have z' : (tupleText (shXs ds)).length ≤ sizeLine := by simpa only [shX] using z
    obtain ⟨bs, rb, k⟩ := xt_ks (prog := prog) (w := w) r (by simpa only [xB] using g) fun x hx => Nat.le_trans (tupleText_mem_le hx) z'
    have rd : Xr h₀ (.ref a) (.tuple ds) := .tup ha hc hd r
    simp only [hgX] at room
    have off : a ∉ bs := rb.off rd (by simp only [hgX]; omega)
    simp only [shX] at q
    refine call_repr_slot (by omega) ⟨o, keep _ _ ha, hc⟩ PySem.F.slot_tuple_repr ?_
    exact call_tuple_reprK ha hc hd off k gs1 (fun b _ => Clear.nil b) (by omega) keep (fun h' u tk e => ⟨_, _, rfl, q h' u tk e⟩) z'
  | @dic _ o es n kvs ha hc hd hs hn r =>
    have e : shX (.dict kvs) = dictText (shKv kvs) := by simp only [shX, hn]
    rw [e] at z q
    obtain ⟨bs, rb, k⟩ := xt_kv (prog := prog) (w := w) r (by simpa only [xB] using g) fun x hx => Nat.le_trans (dictText_mem_le hx) z
    have rd : Xr h₀ (.ref a) (.dict kvs) := .dic ha hc hd hs hn r
    simp only [hgX] at room
    have off : a ∉ bs := rb.off rd (by simp only [hgX]; omega)
    refine call_repr_slot (by omega) ⟨o, keep _ _ ha, hc⟩ PySem.F.slot_dict_repr ?_
    exact call_dict_reprK ha hc hd hs off k gs1 (fun b _ => Clear.nil b) (by omega) keep (fun h' u tk e => ⟨_, _, rfl, q h' u tk e⟩) z
  | @exc K _ C t nm x ht c hs hB =>
    have e : shX (excD nm) = excText nm := by simp only [excD, shX, isExc]
    rw [e] at z q
    have hg1 : hgX (excD nm) = 1 := by simp only [excD, hgX, hgKv]; rfl
    rw [hg1] at room
    have x' : ExcC K C a t s.heap := ⟨x.1.keeps keep, by
      obtain ⟨_, o', vs', a1, a2, a3, a4⟩ := x
      exact ⟨o', vs', keep _ _ a1, a2, a3, a4⟩⟩
    obtain ⟨o, k, ho, hc, hd⟩ := ht
    exact exc_top x' ⟨o, k, keep _ _ ho, hc, hd⟩ c hs hB gs (Clear.nil t) (by omega) z q
end
end Mv

namespace Mv
open L2 PySem.Spec PySem PyProof.Rows

/-! ### X(), an exception of a class of the program as a value; {key: a name}; repr of such things -/
section
variable {X : Cx} {W : WX}
theorem tup0_ok {P : Program} {w : World} {H : Hp} {h : Heap} {t : Addr} {o : Obj} (e : h.get? t = some o) (c : o.cls = .type "tuple") (d : ∃ n, o.data = .seq #[] n) : ObjOk P w H h t (.tup []) :=
  ⟨Nat.zero_le _, [], .nil, ⟨o, e, c, d⟩⟩
theorem pe_exc0 {C : Addr} {bmB : List Value} {B newId initId : String} {x : Str} {p pos : Pos} (F : ExcBaseFacts B newId initId bmB) (q : PySem.W.excIn X.K C bmB newId = true) (gC : X.mg x = some (.ref C)) (kC : PySem.W.keepIn X.K (.ref C) = true) (hg : Gl X x)
    (hdb : (x == ("__debug__" : Str)) = false := by decide) :
    PE X (.Call (.Name x p) [] [] pos) (fun _ H Q => ∀ a t, H a = none → H t = none → a ≠ t → Q (.ref a) (upd (upd H t (.tup [])) a (xcO C t a))) := by
  refine ⟨fun pins s σ H Q I h =>
                                                                                                                ?_⟩
  refine wpAny_Call_Name_kw
                                                                                                                (ld_glob I hg gC ?_ hdb)
  refine PySem.W.callWith_K0 I.kIn kC ?_
  show wpAny _ _ (call (.ref C) []) _ _ _
  obtain ⟨bm, N, nm, qn, bs, hdct, sn, sub, ab, col, dd, k0, k1, k2, k3, k5, mN, hC, hN, hni, T⟩ := exc_obj I.kIn q
  refine wpAny_call_exc_subT F T hC hN hni (fun h' a hm => ?_) (Nat.zero_le _)
  obtain ⟨t, ht, hnt, htt⟩ := hm.there
  have hna : H a = none := I.hok.gone hm.new
  have hnT : H t = none := I.hok.gone hnt
  have hne : a ≠ t := fun z => by
    rw [z, htt] at ht
    cases ht
  obtain ⟨G, g1, g2⟩ := restrict h' fun b => decide (b ≠ a)
  have ga : G.get? a = none := g2 a
                                                                                                                (decide_eq_false fun z => z rfl)
  have gk : ∀ b o, s.heap.get? b = some o → G.get? b = some o := fun b o e => by
    rw [g1 b (decide_eq_true fun z => by rw [z, hm.new] at e; cases e)]
    exact hm.keeps b o e
  have gt : G.get? t = _ := (g1 t (decide_eq_true hne.symm)).trans htt
  have gs : ∀ b o, G.get? b = some o → h'.get? b = some o := fun b o e => by
    by_cases hb : b = a
    · rw [hb, ga] at e
      cases e
    · rw [← g1 b
                                                                                                                    (decide_eq_true hb)]
      exact e
  have I1 := I.laidN (o := .tup []) (h' := G) (t' := s.toks) gk hnt hnT (tup0_ok gt rfl ⟨_, rfl⟩)
  have hna' : upd H t (.tup []) a = none := by rw [upd_ne hne]; exact hna
  have I2 := I1.laidN (o := xcO C t a) (h' := h') (t' := s.toks) gs ga hna' ⟨⟨_, _, ht, rfl, rfl, rfl, rfl⟩, ⟨_, ht⟩, fun _ _ ⟨o, v, q, r⟩ k => ⟨o, v, k o q, r⟩⟩
  exact ⟨.ref a, _, I2, rfl, h a t hna hnT hne⟩
def vExc0 (nm : Str) : M Sl := fun en => .ok (.val (excD nm)) en
theorem ve_exc0 {C : Addr} {bmB : List Value} {B newId initId : String} {x nm : Str} {p pos : Pos} (F : ExcBaseFacts B newId initId bmB) (q : PySem.W.excIn X.K C bmB newId = true) (c : XcC X.K nm C) (gC : X.mg x = some (.ref C)) (kC : PySem.W.keepIn X.K (.ref C) = true) (hg : Gl X x)
    (hdb : (x == ("__debug__" : Str)) = false := by decide) : VE X W (.Call (.Name x p) [] [] pos) (vExc0 nm) := fun B => peWk (pe_exc0 F q gC kC hg hdb) fun σ H Q ⟨F, en, S, q⟩ a t ha ht hne => by
  have g := Gr.laid (o := .tup []) S.sub ht
  have S1 := S.gr g
  have g2 := Gr.laid (o := xcO C t a) S1.sub (show upd H t (.tup []) a = none by rw [upd_ne hne]; exact ha)
  exact q _ _ (S1.gr g2) (g.ff.trans g2.ff) (.ref a) (.xco upd_same (by rw [upd_ne hne.symm]; exact upd_same) c)
/-- an exception class of the program, over ValueError, without an __init__ of its own -/
def XcG (K : PySem.W.Frag) (mg : Str → Option Value) (x : Str) : Prop := ∃ C, PySem.W.excIn K C [.type "ValueError", .type "Exception", .type "BaseException", .type "object"] "ValueError.__new__" = true ∧ XcC K x C ∧ mg x = some (.ref C) ∧ PySem.W.keepIn K (.ref C) = true
structure XcU (K : PySem.W.Frag) (x : Str) : Prop where
  ex : ∃ C, PySem.W.excIn K C [.type "ValueError", .type "Exception", .type "BaseException", .type "object"] "ValueError.__new__" = true ∧ XcC K x C ∧ PySem.W.nsIn K mainGlobals x = some (some (.ref C)) ∧ PySem.W.keepIn K (.ref C) = true
theorem XcU.gc {K : PySem.W.Frag} {x : Str} (u : XcU K x) {h : Heap} {mg : Str → Option Value} (XI : K.In h) (G : h.Ns mainGlobals mg) : XcG K mg x :=
  let ⟨C, a, b, c, d⟩ := u.ex
  ⟨C, a, b, PySem.W.mg_of XI G c, d⟩
theorem xcu_mk {K : PySem.W.Frag} {C : Addr} {x : Str} {cd : ClassData} (n : PySem.W.nsIn K mainGlobals x = some (some (.ref C))) (xi : PySem.W.excIn K C [.type "ValueError", .type "Exception", .type "BaseException", .type "object"] "ValueError.__new__" = true)
    (cl : PySem.W.clsIn K C = some cd) (cn : cd.name = x) (kp : PySem.W.keepIn K (.ref C) = true) (rep : PySem.W.findIn K (.ref C) "__repr__" = some (some (.builtin "BaseException.__repr__"))) (sub : PySem.W.subIn K (.ref C) (.type "BaseException") = some true)
    (ga : PySem.W.findIn K (.ref C) "__getattribute__" = some (some (.builtin "BaseException.__getattribute__"))) (gt : PySem.W.findIn K (.ref C) "__getattr__" = some none) (hd : PySem.W.hasDictIn K C = true)
    (ca : PySem.W.findIn K (.ref C) "__class__" = some (some (.builtin "object.__class__"))) (cg : PySem.W.specialIn K (.builtin "object.__class__") "__get__" = some (some (.builtin "getset_descriptor.__get__"))) (ct : PySem.W.takesIn K (.builtin "object.__class__") = some true) (cm : PySem.W.mroIn K C (.type "object") = some true)
    (k1 : PySem.W.kitOne K (.ref C) (.type "tuple") = some false) (k2 : PySem.W.kitOne K (.ref C) (.type "list") = some false) (k3 : PySem.W.kitOne K (.ref C) (.type "int") = some false) (k4 : PySem.W.kitOne K (.ref C) (.type "bool") = some false) (k5 : PySem.W.kitOne K (.ref C) (.type "str") = some false) : XcU K x :=
  ⟨C, xi, ⟨by rw [cl, Option.map_some, cn], rep, sub, ga, gt, hd, ca, cg, ct, cm, fun T hT => by
    simp only [plainT, List.mem_cons, List.not_mem_nil, or_false] at hT
    rcases hT with rfl | rfl | rfl | rfl | rfl
    · exact k1
    · exact k2
    · exact k3
    · exact k4
    · exact k5⟩, n, kp⟩
theorem ve_excG {x : Str} {p pos : Pos} (g : XcG X.K X.mg x) (hg : Gl X x) (hdb : (x == ("__debug__" : Str)) = false := by decide) : VE X W (.Call (.Name x p) [] [] pos) (vExc0 x) :=
  let ⟨_, a, b, c, d⟩ := g
  ve_exc0 PySem.F.excBase_ValueError a b c d hg hdb
def vDicN (k : Key) (i : Nat) : M Sl := fun en => match en[i]? with
  | some (.val d) => .ok (.val (.dict [(keyD k, d)])) en
  | _ => .bad
theorem ve_dicN {pos p : Pos} {ke : Expr} {k : Key} {i : Nat} {x : Str} (hk : PE X ke (tC (kV k))) (hN : X.N[i]? = some x := by rfl) (hv : Vis X.env.scope x := by first | exact Or.inl rfl | exact Or.inr (Or.inl rfl) | exact Or.inr (Or.inr rfl)) (hd : (x == ("__debug__" : Str)) = false := by decide)
    (hcd : (x == ("__classdict__" : Str)) = false := by decide) : VE X W (.Dict [some ke] [.Name x p] pos) (vDicN k i) := fun B =>
  peWk (pe_disp (pps_cons hk (pe_var hN hv hd hcd) pps_nil) rfl rfl (fun h => by cases h) (by show 1 ≤ 15; decide)) fun σ H Q ⟨F, en, S, q⟩ a ha => by
    unfold vDicN at q
    split at q
    · rename_i d h
      obtain ⟨v, h1, h2⟩ := S.val i d h
      refine ⟨v, h1, upd_same, [(k, v)], rfl, by show 1 ≤ 15; decide, ?_⟩
      have e : mergeK [] [(k, v)] = [(k, v)] := rfl
      rw [e, upd_upd]
      have g := Gr.laid (o := HO.dK [(k, v)]) S.sub ha
      exact q _ _ (S.gr g) g.ff (.ref a) (.dic (.inl upd_same) (.cons (dp_mono g.ff h2) .nil))
    · exact q.elim
theorem kv_not {K : PySem.W.Frag} {F : Hp} : ∀ {ks : List (Key × V)} {ds : List (D × D)}, DpKv K F ks ds → isExc ds = none
  | _, _, .nil => rfl
  | _, _, .cons (k := k) _ _ => by cases k <;> rfl
theorem xr_key {h : Heap} {k : Key} {v : Value} (r : keyIs k v = true) : XrK h v (keyD k) := by
  rcases keyIs_shape r with ⟨i, t, rfl, rfl⟩ | ⟨x, t, rfl, rfl⟩
  · exact .int i t
  · exact .str x t
section
variable {pins : List (Addr × Obj)} {σ : L2.St} {H : Hp} {s : Shared}
mutual
theorem xr_of (I : Inv X pins σ H s) : ∀ {d : D} {v : V} {u : Value}, Dp X.K H v d → RelV v u → xB d = true → Xr s.heap u d
  | .none, _, _, .non, r, _ => by cases r; exact .non
  | .bool _, _, _, .bl b, r, _ => by cases r; exact .bl b
  | .int _, _, _, .int i, r, _ => by obtain ⟨t, rfl⟩ := r; exact .int i t
  | .str _, _, _, .str x, r, _ => by obtain ⟨t, rfl⟩ := r; exact .str x t
  | .list _, _, _, .lst h1 h2, r, g => by
    obtain ⟨its, rv, ⟨o, n, ho, hc, _, hd⟩, _⟩ := I.list (.inl h1)
    cases r
    exact .lst ho hc hd (xrs_of I h2 rv (by simpa only [xB] using g))
  | .tuple _, _, _, .tup h1 h2, r, g => by
    obtain ⟨its, rv, ⟨o, ho, hc, n, hd⟩, _⟩ := I.tuple h1
    cases r
    exact .tup ho hc hd (xrs_of I h2 rv (by simpa only [xB] using g))
  | .dict _, _, _, .dic h1 h2, r, g => by
    obtain ⟨_, hsys, vs, kv, o, es, ep, g1, g2, g3, g4, g5, g6⟩ := dk_rd I.hok h1
    cases r
    exact .dic g1 g2.1 g3 hsys (kv_not h2) (xrk_of I h2 kv g5 (by simpa only [xB] using g))
  | .dict _, _, _, .dit h1 h0 h2, r, g => by
    cases h2 with
    | nil => exact absurd rfl h0
    | cons _ _ => simp only [xB, xKv, xKey, Bool.false_and, Bool.and_false] at g; cases g
  | .dict _, _, _, .sob _ _ _ _, r, g => by simp only [xB, xKv, xKey, Bool.false_and, Bool.and_false] at g; cases g
  | _, _, _, .opq _, r, g => by simp only [opqD, xB, xKv, xKey, Bool.false_and, Bool.and_false] at g; cases g
  | _, _, _, .xco h1 h2 c, r, g => by
    obtain ⟨⟨o, vs, k1, k2, k3, k4, k5⟩, _⟩ := I.hok _ _ h1
    obtain ⟨its, rv, ⟨o', ho, hc, n, hd⟩, _⟩ := I.tuple (.inl (.inl h2))
    cases rv
    cases r
    exact .exc ⟨I.kIn, o, vs, k1, k2, k4, k5⟩ ⟨o', n, ho, hc, hd⟩ c.nm c.rep c.sub
theorem xrs_of (I : Inv X pins σ H s) : ∀ {ds : List D} {vs : List V} {us : List Value}, DpAll X.K H vs ds → Vals vs us → xBs ds = true → XrAll s.heap us ds
  | [], _, _, .nil, r, _ => by cases r; exact .nil
  | _ :: _, _, _, .cons a b, r, g => by
    cases r with
    | cons r1 r2 =>
      simp only [xBs, Bool.and_eq_true] at g
      have g' := g
      exact .cons (xr_of I a r1 g'.1) (xrs_of I b r2 g'.2)
theorem xrk_of (I : Inv X pins σ H s) : ∀ {ds : List (D × D)} {es : List DictEntry} {ks : List (Key × V)} {vs : List (Key × Value)}, DpKv X.K H ks ds → KV ks vs → Pairs (mixKind X.prog X.w) es vs → xKv ds = true → XrKv s.heap es ds
  | [], es, _, _, .nil, .nil, p, _ => by
    cases p
    exact .nil
  | _ :: _, es, _, _, .cons r rs, .cons k kk, p, g => by
    cases p with
    | @cons e kv es kvs p1 p2 p3 =>
    simp only [xKv, Bool.and_eq_true] at g
    have g' := g
    obtain ⟨k1, k2⟩ := k
    have e1 := xr_key (h := s.heap) p1
    rw [← k1] at e1
    exact .cons e1 (by rw [p2]; exact xr_of I r k2 g'.1.2) (xrk_of I rs kk p3 g'.2)
end
end
def xOk (d : D) : Prop := xB d = true ∧ (shX d).length ≤ LIM ∧ hgX d ≤ 50
instance (d : D) : Decidable (xOk d) := inferInstanceAs (Decidable (_ ∧ _ ∧ _))
def dReprX : List D → Option Sl
  | [d] => if repOk d then some (.val (.str d.shown)) else if xOk d then some (.val (.str (shX d))) else none
  | _ => none
def rReprX (X : Cx) : List V → Hp → VK → Prop := fun xs H Q => ∃ v d F, xs = [v] ∧ Same F H ∧ Dp X.K F v d ∧ xOk d ∧ Q (.str (shX d)) H
theorem call_reprX0 (hr : RoomG 0 X.A) : CallR X (.builtin "repr") (rReprX X) := by
  intro pins s σ H xs
  intro us Q I r h
  obtain ⟨v, d, F, rfl, s0, dv, ⟨h1, h2, h3⟩, q⟩ := h
  obtain ⟨u, rfl, ru⟩ : ∃ u, us = [u] ∧ RelV v u := by
    cases r with
    | cons a b => cases b; exact ⟨_, rfl, a⟩
  have hun := hr.r.un
  have hz := lim_line h2
  have rd := xr_of I (dp_mono s0 dv) ru h1
  have fin : ∀ a, u = .ref a → wpAny (model X.prog X.w) X.A (call (.builtin "repr") [u]) _ X.xe s := fun a e => by
    subst e
    exact xt_ref (Q := fun v' s' => ∃ x H', Inv X pins σ H' s' ∧ RelV x v' ∧ Q x H') rd h1 hz hr.g (by omega) (fun _ _ e => e) fun h' t tk hk => ⟨.str _, H, I.kept hk, ⟨t, rfl⟩, q⟩
  cases rd with
  | non => exact PySem.P.repr_of_none ⟨.str _, H, I.tok _, ⟨_, rfl⟩, by simpa only [shX, PyData.shown] using q⟩
  | bl b => exact PySem.P.repr_of_bool ⟨.str _, H, I.tok _, ⟨_, rfl⟩, by simpa only [shX, PyData.shown] using q⟩
  | int i t => exact PySem.P.repr_of_int (by simpa [xB] using h1) ⟨.str _, H, I.tok _, ⟨_, rfl⟩, by simpa only [shX, PyData.shown] using q⟩
  | str x t => exact PySem.P.repr_of_str ⟨.str _, H, I.tok _, ⟨_, rfl⟩, by simpa only [shX, PyData.shown] using q⟩ (by simpa only [shX, PyData.shown] using hz)
  | lst _ _ _ _ => exact fin _ rfl
  | tup _ _ _ _ => exact fin _ rfl
  | dic _ _ _ _ _ _ => exact fin _ rfl
  | exc _ _ _ _ _ => exact fin _ rfl
theorem call_reprX (hr : RoomG 0 X.A) : CallR X (.builtin "repr") (fun xs H Q => rReprD X xs H Q ∨ rReprX X xs H Q) := fun pins s σ H xs us Q I r h => h.elim (call_reprD hr pins s σ H xs us Q I r) (call_reprX0 hr pins s σ H xs us Q I r)
theorem cv_reprX (hr : RoomG 0 X.A) : CV X (.builtin "repr") dReprX := cv_of (call_reprX hr) fun xs H Q F as s ra k => by
  unfold dReprX at k
  split at k
  · rename_i d
    obtain ⟨u, rfl, r⟩ := dps1 ra
    split at k
    · rename_i hk
      exact .inl ⟨u, d, F, rfl, s, r, hk, k.val s (.str _)⟩
    · split at k
      · rename_i hk
        exact .inr ⟨u, d, F, rfl, s, r, hk, k.val s (.str _)⟩
      · exact k.elim
  · exact k.elim
end
end Mv

namespace Sh
open PySem Mv
noncomputable section
/-! ### is_bounds -/
def g_is_bounds (n : Nat) : MS := sSeq (sIf (bOr (bNot (vB (vCall m_is_tuple_of (vCons (vVar 0) (vCons (vC (.int 2)) (vNil)))))) (bOr (bNot (vB (vCall m_is_integer (vCons (vIxv 0 (vC (.int 0))) (vNil))))) (bNot (vB (vCall m_is_integer (vCons (vIxv 0 (vC (.int 1))) (vNil))))))) (sRet (vC (.bool false))) (sNil)) (sRet (vChain (dCmp fun i j => decide (i ≤ j)) (dCmp fun i j => decide (i ≤ j)) (vC (.int 0)) (vIxv 0 (vC (.int 0))) (vIxv 0 (vC (.int 1)))))
def m_is_bounds : List D → Option Out := runM 1 1 g_is_bounds (fun _ => 0)
/-! ### is_kind -/
def g_is_kind (n : Nat) : MS := sRet (vAnd (vCall m_is_integer (vCons (vVar 1) (vNil))) (vChain (dCmp fun i j => decide (i ≤ j)) (dCmp fun i j => decide (i < j)) (vC (.int 0)) (vVar 1) (vVar 0)))
def m_is_kind : List D → Option Out := runM 2 2 g_is_kind (fun _ => 0)
/-! ### is_piece_side -/
def g_is_piece_side (n : Nat) : MS := sSeq (sIf (bOr (bNot (vB (vUn (isiD "tuple") (vVar 1)))) (bOr (vB (vOp dNe (vLenv 1) (vC (.int 5)))) (bNot (vB (vCall m_is_bounds (vCons (vSlv 1 (oSome (vC (.int 3))) (oNone)) (vNil))))))) (sRet (vC (.bool false))) (sNil)) (sSeq (sAsg (pTup (pCons (pNm 2) (pCons (pNm 3) (pCons (pNm 4) (pNil))))) (vSlv 1 (oNone) (oSome (vC (.int 3))))) (sRet (vAnd (vCall m_is_kind (vCons (vVar 0) (vCons (vVar 2) (vNil)))) (vAnd (vCall m_is_kind (vCons (vVar 0) (vCons (vVar 3) (vNil)))) (vAnd (vCall m_is_integer (vCons (vVar 4) (vNil))) (vChain (dCmp fun i j => decide (i ≤ j)) (dCmp fun i j => decide (i ≤ j)) (vUn dNeg (vC (.int 3))) (vVar 4) (vC (.int 3))))))))
def m_is_piece_side : List D → Option Out := runM 2 5 g_is_piece_side (fun _ => 0)
def e1_is_piece (n : Nat) : M Sl := vCall m_is_piece_side (vCons (vVar 1) (vCons (vVar 5) (vNil)))
def e2_is_piece (n : Nat) : M Sl := vCall m_is_bounds (vCons (vVar 4) (vNil))
def s1_is_piece (n : Nat) : MS := sIf (bOr (bNot (vB (vUn (isiD "tuple") (vVar 0)))) (vB (vOp dNe (vLenv 0) (vC (.int 3))))) (sRet (vC (.bool false))) (sNil)
def s2_is_piece (n : Nat) : MS := sIf (bOr (bNot (vB (vCall m_is_integer (vCons (vVar 1) (vNil))))) (bOr (bNot (vB (vChain (dCmp fun i j => decide (i ≤ j)) (dCmp fun i j => decide (i ≤ j)) (vC (.int 1)) (vVar 1) (vC (.int 3))))) (bOr (bNot (vB (vUn (isiD "tuple") (vVar 2)))) (bNot (vB (vUn (isiD "tuple") (vVar 3))))))) (sRet (vC (.bool false))) (sNil)
def s3_is_piece (n : Nat) : MS := sIf (bOr (bNot (vB (vCb dAll (vCons (vLc (vItems (vVar 2)) (pNm 5) (bYes) (e1_is_piece n) [5]) (vNil))))) (vB (vOp dNe (vCb dList (vCons (vVar 2) (vNil))) (vCb dSorted (vCons (vVar 2) (vNil)))))) (sRet (vC (.bool false))) (sNil)
def s4_is_piece (n : Nat) : MS := sRet (vAnd (vOp dEq (vLenv 3) (vVar 1)) (vCb dAll (vCons (vLc (vItems (vVar 3)) (pNm 4) (bYes) (e2_is_piece n) [4]) (vNil))))
/-! ### is_piece -/
def g_is_piece (n : Nat) : MS := sSeq (s1_is_piece n) (sSeq (sAsg (pTup (pCons (pNm 1) (pCons (pNm 2) (pCons (pNm 3) (pNil))))) (vVar 0)) (sSeq (s2_is_piece n) (sSeq (s3_is_piece n) (s4_is_piece n))))
def m_is_piece : List D → Option Out := runM 1 6 g_is_piece (fun _ => 0)
def b1_ring_row (n : Nat) : MS := sIf (vB (vOp dEq (vVar 8) (vVar 3))) (sApp 7 (vTup (vCons (vOp dAdd (vOp dMul2 (vOp dMod (vOp dAdd (vVar 2) (vVar 10)) (vVar 1)) (vVar 4)) (vVar 9)) (vCons (vVar 11) (vCons (vVar 12) (vNil)))))) (sNil)
/-! ### ring_row -/
def g_ring_row (n : Nat) : MS := sSeq (sAsg (pTup (pCons (pNm 4) (pCons (pNm 5) (pCons (pNm 6) (pNil))))) (vVar 0)) (sSeq (sSet 7 (vLst (vNil))) (sSeq (sFor (vItems (vVar 5)) (pTup (pCons (pNm 8) (pCons (pNm 9) (pCons (pNm 10) (pCons (pNm 11) (pCons (pNm 12) (pNil))))))) (b1_ring_row n)) (sRet (vTup (vCons (vCb dTuple (vCons (vCb dSorted (vCons (vVar 7) (vNil))) (vNil))) (vCons (vIxv 6 (vVar 3)) (vNil)))))))
def m_ring_row : List D → Option Out := runM 4 13 g_ring_row (fun _ => 0)
def e1_ring_table (n : Nat) : M Sl := vCall m_ring_row (vCons (vVar 0) (vCons (vVar 1) (vCons (vVar 3) (vCons (vVar 4) (vNil)))))
def b1_ring_table (n : Nat) : MS := sExt 2 (vLc (vRng1 (vCons (vIxv 0 (vC (.int 0))) (vNil))) (pNm 4) (bYes) (e1_ring_table n) [4])
/-! ### ring_table -/
def g_ring_table (n : Nat) : MS := sSeq (sSet 2 (vLst (vNil))) (sSeq (sFor (vRng1 (vCons (vVar 1) (vNil))) (pNm 3) (b1_ring_table n)) (sRet (vTup (vCons (vOp dMul2 (vVar 1) (vIxv 0 (vC (.int 0)))) (vCons (vCb dTuple (vCons (vVar 2) (vNil))) (vNil))))))
def m_ring_table : List D → Option Out := runM 2 5 g_ring_table (fun _ => 0)
/-! ### spread -/
def g_spread (n : Nat) : MS := sRet (vOp dMul2 (vVar 0) (vVar 1))
def m_spread : List D → Option Out := runM 2 2 g_spread (fun _ => 0)
/-! ### _law_is_bounds -/
def g__law_is_bounds (n : Nat) : MS := sSeq (sIf (bOr (bNot (vB (vUn (isiD "tuple") (vVar 0)))) (bOr (vB (vOp dNe (vLenv 0) (vC (.int 2)))) (bOr (bNot (vB (vCall m__law_integer (vCons (vIxv 0 (vC (.int 0))) (vNil))))) (bNot (vB (vCall m__law_integer (vCons (vIxv 0 (vC (.int 1))) (vNil)))))))) (sRet (vC (.bool false))) (sNil)) (sRet (vChain (dCmp fun i j => decide (i ≤ j)) (dCmp fun i j => decide (i ≤ j)) (vC (.int 0)) (vIxv 0 (vC (.int 0))) (vIxv 0 (vC (.int 1)))))
def m__law_is_bounds : List D → Option Out := runM 1 1 g__law_is_bounds (fun _ => 0)
def t1__law_is_piece (n : Nat) : M Bool := bNot (vB (vCall m__law_is_bounds (vCons (vVar 5) (vNil))))
def t2__law_is_piece (n : Nat) : M Bool := bNot (vB (vCall m__law_integer (vCons (vVar 6) (vNil))))
def b1__law_is_piece (n : Nat) : MS := sSeq (sIf (bOr (bNot (vB (vUn (isiD "tuple") (vVar 4)))) (bOr (vB (vOp dNe (vLenv 4) (vC (.int 5)))) (vB (vOp dNe (vLc (vItems (vVar 4)) (pNm 6) (t2__law_is_piece n) (vVar 6) [6]) (vLst (vNil)))))) (sRet (vC (.bool false))) (sNil)) (sIf (bOr (bNot (vB (vChain (dCmp fun i j => decide (i ≤ j)) (dCmp fun i j => decide (i < j)) (vC (.int 0)) (vIxv 4 (vC (.int 0))) (vVar 1)))) (bOr (bNot (vB (vChain (dCmp fun i j => decide (i ≤ j)) (dCmp fun i j => decide (i < j)) (vC (.int 0)) (vIxv 4 (vC (.int 1))) (vVar 1)))) (bOr (bNot (vB (vChain (dCmp fun i j => decide (i ≤ j)) (dCmp fun i j => decide (i ≤ j)) (vUn dNeg (vC (.int 3))) (vIxv 4 (vC (.int 2))) (vC (.int 3))))) (bNot (vB (vCall m__law_is_bounds (vCons (vSlv 4 (oSome (vC (.int 3))) (oNone)) (vNil)))))))) (sRet (vC (.bool false))) (sNil))
def s1__law_is_piece (n : Nat) : MS := sIf (bOr (bNot (vB (vUn (isiD "tuple") (vVar 0)))) (bOr (vB (vOp dNe (vLenv 0) (vC (.int 3)))) (bOr (bNot (vB (vCall m__law_integer (vCons (vIxv 0 (vC (.int 0))) (vNil))))) (bNot (vB (vChain (dCmp fun i j => decide (i ≤ j)) (dCmp fun i j => decide (i ≤ j)) (vC (.int 1)) (vIxv 0 (vC (.int 0))) (vC (.int 3)))))))) (sRet (vC (.bool false))) (sNil)
def s2__law_is_piece (n : Nat) : MS := sIf (bOr (bNot (vB (vUn (isiD "tuple") (vVar 2)))) (bOr (bNot (vB (vUn (isiD "tuple") (vVar 3)))) (vB (vOp dNe (vLenv 3) (vVar 1))))) (sRet (vC (.bool false))) (sNil)
def s3__law_is_piece (n : Nat) : MS := sIf (vB (vOp dNe (vLc (vItems (vVar 3)) (pNm 5) (t1__law_is_piece n) (vVar 5) [5]) (vLst (vNil)))) (sRet (vC (.bool false))) (sNil)
def s4__law_is_piece (n : Nat) : MS := sRet (vOp dEq (vCb dList (vCons (vVar 2) (vNil))) (vCb dSorted (vCons (vVar 2) (vNil))))
/-! ### _law_is_piece -/
def g__law_is_piece (n : Nat) : MS := sSeq (s1__law_is_piece n) (sSeq (sAsg (pTup (pCons (pNm 1) (pCons (pNm 2) (pCons (pNm 3) (pNil))))) (vVar 0)) (sSeq (s2__law_is_piece n) (sSeq (s3__law_is_piece n) (sSeq (sFor (vItems (vVar 2)) (pNm 4) (b1__law_is_piece n)) (s4__law_is_piece n)))))
def m__law_is_piece : List D → Option Out := runM 1 7 g__law_is_piece (fun _ => 0)
/-! ### _law_bent -/
def g__law_bent_v2 (rec : List D → List D → Option (Out × List D)) (n : Nat) : MS := sSeq (sIf (bOr (vB (vOp dEq (vVar 2) (vC (.int 0)))) (bOr (bNot (vB (vUn (isiD "tuple") (vVar 1)))) (bOr (vB (vOp dEq (vVar 1) (vTup (vNil)))) (vB (vOp dEq (vCallB 0 m__law_take (vCons (vC (.int 6)) (vNil))) (vC (.int 0))))))) (sSeq (sIf (vB (vCall m__law_integer (vCons (vVar 1) (vNil)))) (sRet (vCallB 0 m__law_one (vCons (vLst (vCons (vOp dAdd (vVar 1) (vC (.int 1))) (vCons (vOp dSub (vVar 1) (vC (.int 1))) (vCons (vUn dNeg (vVar 1)) (vCons (vOp dEq (vVar 1) (vC (.int 1))) (vCons (vCb dStr (vCons (vVar 1) (vNil))) (vCons (vC .none) (vCons (vTup (vCons (vVar 1) (vNil))) (vCons (vC (.int 4)) (vCons (vOp dPow (vC (.int 10)) (vC (.int 39))) (vNil))))))))))) (vNil)))) (sNil)) (sSeq (sIf (vB (vUn (isiD "tuple") (vVar 1))) (sSeq (sSet 3 (vCallB 0 m__law_take (vCons (vOp dAdd (vLenv 1) (vC (.int 1))) (vNil)))) (sSeq (sSet 4 (vLst (vCons (vOp dAdd (vSlv 1 (oNone) (oSome (vVar 3))) (vSlv 1 (oSome (vOp dAdd (vVar 3) (vC (.int 1)))) (oNone))) (vCons (vOp dAdd (vVar 1) (vSlv 1 (oNone) (oSome (vC (.int 1))))) (vCons (vUn dRev (vVar 1)) (vCons (vCb dList (vCons (vVar 1) (vNil))) (vCons (vOp dAdd (vOp dAdd (vSlv 1 (oNone) (oSome (vVar 3))) (vTup (vCons (vC (.int 0)) (vNil)))) (vSlv 1 (oSome (vVar 3)) (oNone))) (vNil)))))))) (sRet (vCallB 0 m__law_one (vCons (vOp dAdd (vVar 4) (vLst (vCons (vOp dAdd (vOp dAdd (vOp dAdd (vSlv 1 (oNone) (oSome (vVar 3))) (vSlv 1 (oSome (vOp dAdd (vVar 3) (vC (.int 1)))) (oSome (vOp dAdd (vVar 3) (vC (.int 2)))))) (vSlv 1 (oSome (vVar 3)) (oSome (vOp dAdd (vVar 3) (vC (.int 1)))))) (vSlv 1 (oSome (vOp dAdd (vVar 3) (vC (.int 2)))) (oNone))) (vNil)))) (vNil)))))) (sNil)) (sRet (vCallB 0 m__law_one (vCons (vLst (vCons (vC .none) (vCons (vC (.bool true)) (vCons (vC (.int 1)) (vCons (vC (.str ⟨#[]⟩)) (vCons (vTup (vNil)) (vNil))))))) (vNil)))))) (sNil)) (sSeq (sSet 3 (vCallB 0 m__law_take (vCons (vLenv 1) (vNil)))) (sRet (vOp dAdd (vOp dAdd (vSlv 1 (oNone) (oSome (vVar 3))) (vTup (vCons (vCallB 0 rec (vCons (vIxv 1 (vVar 3)) (vCons (vOp dSub (vVar 2) (vC (.int 1))) (vNil)))) (vNil)))) (vSlv 1 (oSome (vOp dAdd (vVar 3) (vC (.int 1)))) (oNone)))))
def r__law_bent_v2 : Nat → List D → List D → Option (Out × List D)
  | 0 => fun _ _ => none
  | dep + 1 => runB 3 5 (g__law_bent_v2 (r__law_bent_v2 dep)) (fun _ _ => 0)
def m__law_bent_v2 : List D → List D → Option (Out × List D) := r__law_bent_v2 8
def s1__law_odd_pieces (n : Nat) : MS := sPar [1, 2] (lCons (vTup (vCons (vC (.int 0)) (vCons (vC (.int 0)) (vNil)))) (lCons (vTup (vCons (vC (.int 0)) (vCons (vC (.int 0)) (vCons (vC (.int 0)) (vCons (vC (.int 1)) (vCons (vC (.int 1)) (vNil))))))) (lNil)))
def s2__law_odd_pieces (n : Nat) : MS := sSet 3 (vLst (vCons (vC .none) (vCons (vC (.bool true)) (vCons (vC (.int 1)) (vCons (vC (.str ⟨#[]⟩)) (vCons (vTup (vNil)) (vCons (vLst (vNil)) (vCons (vDic0) (vCons (vTup (vCons (vC (.int 1)) (vCons (vTup (vNil)) (vCons (vTup (vNil)) (vNil))))) (vCons (vTup (vCons (vC (.int 1)) (vCons (vTup (vNil)) (vCons (vTup (vCons (vVar 1) (vNil))) (vNil))))) (vCons (vTup (vCons (vC (.int 0)) (vCons (vTup (vNil)) (vCons (vTup (vNil)) (vNil))))) (vCons (vTup (vCons (vC (.int 4)) (vCons (vTup (vNil)) (vCons (vOp dMul2 (vTup (vCons (vVar 1) (vNil))) (vC (.int 4))) (vNil))))) (vCons (vTup (vCons (vC (.bool true)) (vCons (vTup (vNil)) (vCons (vTup (vCons (vVar 1) (vNil))) (vNil))))) (vNil))))))))))))))
def s3__law_odd_pieces (n : Nat) : MS := sSet 3 (vOp dAdd (vVar 3) (vLst (vCons (vTup (vCons (vC (.int 1)) (vCons (vLst (vCons (vVar 2) (vNil))) (vCons (vTup (vCons (vVar 1) (vNil))) (vNil))))) (vCons (vTup (vCons (vC (.int 1)) (vCons (vTup (vCons (vVar 2) (vNil))) (vCons (vLst (vCons (vVar 1) (vNil))) (vNil))))) (vCons (vTup (vCons (vC (.int 1)) (vCons (vTup (vCons (vVar 2) (vCons (vVar 2) (vNil)))) (vCons (vTup (vCons (vVar 1) (vNil))) (vNil))))) (vCons (vTup (vCons (vC (.int 1)) (vCons (vTup (vCons (vTup (vCons (vC (.int 0)) (vCons (vC (.int 0)) (vCons (vC (.int 4)) (vCons (vC (.int 1)) (vCons (vC (.int 1)) (vNil))))))) (vNil))) (vCons (vTup (vCons (vVar 1) (vNil))) (vNil))))) (vNil)))))))
def s4__law_odd_pieces (n : Nat) : MS := sSet 3 (vOp dAdd (vVar 3) (vLst (vCons (vTup (vCons (vC (.int 1)) (vCons (vTup (vCons (vTup (vCons (vC (.int 0)) (vCons (vC (.int 0)) (vCons (vUn dNeg (vC (.int 3))) (vCons (vC (.int 1)) (vCons (vC (.int 1)) (vNil))))))) (vCons (vVar 2) (vNil)))) (vCons (vTup (vCons (vVar 1) (vNil))) (vNil))))) (vCons (vTup (vCons (vC (.int 1)) (vCons (vTup (vCons (vVar 2) (vCons (vTup (vCons (vC (.int 0)) (vCons (vC (.int 0)) (vCons (vUn dNeg (vC (.int 3))) (vCons (vC (.int 1)) (vCons (vC (.int 1)) (vNil))))))) (vNil)))) (vCons (vTup (vCons (vVar 1) (vNil))) (vNil))))) (vCons (vTup (vCons (vC (.int 1)) (vCons (vTup (vCons (vTup (vCons (vC (.int 0)) (vCons (vC (.int 1)) (vCons (vC (.int 0)) (vCons (vC (.int 1)) (vCons (vC (.int 1)) (vNil))))))) (vNil))) (vCons (vTup (vCons (vVar 1) (vNil))) (vNil))))) (vNil))))))
def s5__law_odd_pieces (n : Nat) : MS := sSet 3 (vOp dAdd (vVar 3) (vLst (vCons (vDic1 (.inr ⟨#[97]⟩) (.int 1)) (vCons (vTup (vCons (vC (.int 1)) (vCons (vDicN (.inl 0) 2) (vCons (vTup (vCons (vVar 1) (vNil))) (vNil))))) (vCons (vTup (vCons (vC (.int 1)) (vCons (vTup (vCons (vVar 2) (vNil))) (vCons (vDicN (.inl 0) 1) (vNil))))) (vCons (vTup (vCons (vC (.int 1)) (vCons (vTup (vCons (vDic0) (vNil))) (vCons (vTup (vCons (vVar 1) (vNil))) (vNil))))) (vCons (vExc0 "Nothing") (vCons (vTup (vCons (vC (.int 1)) (vCons (vTup (vCons (vExc0 "Nothing") (vNil))) (vCons (vTup (vCons (vVar 1) (vNil))) (vNil))))) (vNil)))))))))
def s6__law_odd_pieces (n : Nat) : MS := sSet 3 (vOp dAdd (vVar 3) (vLst (vCons (vTup (vCons (vExc0 "Nothing") (vCons (vTup (vCons (vVar 2) (vNil))) (vCons (vTup (vCons (vVar 1) (vNil))) (vNil))))) (vCons (vTup (vCons (vC (.int 1)) (vCons (vTup (vCons (vTup (vCons (vC (.int 0)) (vCons (vC (.int 0)) (vCons (vExc0 "Nothing") (vCons (vC (.int 1)) (vCons (vC (.int 1)) (vNil))))))) (vNil))) (vCons (vTup (vCons (vVar 1) (vNil))) (vNil))))) (vCons (vTup (vCons (vC (.int 1)) (vCons (vTup (vCons (vVar 2) (vNil))) (vCons (vTup (vCons (vExc0 "Nothing") (vNil))) (vNil))))) (vNil))))))
def s7__law_odd_pieces (n : Nat) : MS := sRet (vOp dAdd (vVar 3) (vLst (vCons (vTup (vCons (vC (.int 1)) (vCons (vTup (vCons (vTup (vCons (vC (.int 0)) (vCons (vC (.int 0)) (vCons (vC (.int 0)) (vCons (vC (.int 2)) (vCons (vC (.int 1)) (vNil))))))) (vNil))) (vCons (vTup (vCons (vVar 1) (vNil))) (vNil))))) (vCons (vTup (vCons (vC (.int 1)) (vCons (vTup (vCons (vOp dAdd (vVar 2) (vTup (vCons (vC (.int 0)) (vNil)))) (vNil))) (vCons (vTup (vCons (vVar 1) (vNil))) (vNil))))) (vCons (vTup (vCons (vC (.int 2)) (vCons (vTup (vCons (vVar 2) (vNil))) (vCons (vTup (vCons (vVar 1) (vNil))) (vNil))))) (vCons (vTup (vCons (vC (.int 1)) (vCons (vTup (vCons (vVar 2) (vNil))) (vCons (vTup (vCons (vTup (vCons (vC (.int 1)) (vCons (vC (.int 0)) (vNil)))) (vNil))) (vNil))))) (vNil)))))))
/-! ### _law_odd_pieces -/
def g__law_odd_pieces (n : Nat) : MS := sSeq (s1__law_odd_pieces n) (sSeq (s2__law_odd_pieces n) (sSeq (s3__law_odd_pieces n) (sSeq (s4__law_odd_pieces n) (sSeq (s5__law_odd_pieces n) (sSeq (s6__law_odd_pieces n) (s7__law_odd_pieces n))))))
def m__law_odd_pieces : List D → List D → Option (Out × List D) := runB 1 4 g__law_odd_pieces (fun _ _ => 0)
end
end Sh

namespace G57
open L2 PySem.Spec PySem PyProof.Rows Mv Sh
def topS (i : Nat) : Stmt := PySem.Challenge.pw_anglesuntold_k57_rings_laid_out.main.body.getD i (.Pass ⟨0, 0, 0, 0⟩)
section
variable {P : Program} {w : World} {K : PySem.W.Frag} {mg : Str → Option Value} {base : Heap} {f : Addr} {fd : FuncData}

/-! ### is_integer -/
abbrev S_is_integer : Stmt := topS 1
theorem sc_is_integer : FnScope ["thing"] ["thing"] (defScope S_is_integer) := ⟨rfl, rfl, rfl, by decide +kernel, rfl, by decide +kernel, by decide +kernel⟩
theorem w_is_integer (bt : Blt mg) (F : Fun K "is_integer" "is_integer" S_is_integer f fd) (b : Binds K fd ["thing"] []) (hm : mg "is_integer" = some (.ref f)) : FnV P w K mg base "is_integer" 1 m_is_integer :=
  fnv_run (k := 0) F sc_is_integer hm b fun n cdv A outer s H E hr =>
    vss_one (vs_ret (ve_and (ve_isi (ve_var 0) (by rfl) bt.isinstance (by rfl) bt.int bo_int) (ve_one (ve_not (ve_isi (ve_var 0) (by rfl) bt.isinstance (by rfl) bt.bool bo_bool)))))

/-! ### is_tuple_of -/
abbrev S_is_tuple_of : Stmt := topS 2
theorem sc_is_tuple_of : FnScope ["thing", "size"] ["thing", "size"] (defScope S_is_tuple_of) := ⟨rfl, rfl, rfl, by decide +kernel, rfl, by decide +kernel, by decide +kernel⟩
theorem w_is_tuple_of (bt : Blt mg) (F : Fun K "is_tuple_of" "is_tuple_of" S_is_tuple_of f fd) (b : Binds K fd ["thing", "size"] []) (hm : mg "is_tuple_of" = some (.ref f)) : FnV P w K mg base "is_tuple_of" 1 m_is_tuple_of :=
  fnv_run (k := 0) F sc_is_tuple_of hm b fun n cdv A outer s H E hr =>
    vss_one (vs_ret (ve_and (ve_isi (ve_var 0) (by rfl) bt.isinstance (by rfl) bt.tuple bo_tuple) (ve_one (ve_cmp (ov_eq (hr.mono (Nat.zero_le _))) (ve_lenv (i := 0) (by rfl) bt.len) (ve_var 1) (by rfl)))))

/-! ### is_bounds -/
abbrev S_is_bounds : Stmt := topS 3
theorem sc_is_bounds : FnScope ["thing"] ["thing"] (defScope S_is_bounds) := ⟨rfl, rfl, rfl, by decide +kernel, rfl, by decide +kernel, by decide +kernel⟩
theorem w_is_bounds (bt : Blt mg) (F : Fun K "is_bounds" "is_bounds" S_is_bounds f fd) (b : Binds K fd ["thing"] []) (hm : mg "is_bounds" = some (.ref f)) (c_is_tuple_of : FnV P w K mg base "is_tuple_of" 1 m_is_tuple_of) (c_is_integer : FnV P w K mg base "is_integer" 1 m_is_integer) : FnV P w K mg base "is_bounds" 2 m_is_bounds :=
  fnv_run (k := 1) F sc_is_bounds hm b fun n cdv A outer s H E hr =>
    vss_cons (vs_if ((vw_or (vb_not (vb_val (ve_call (c_is_tuple_of.mono (by decide)) hr body_takes (vds_cons (ve_var 0) (vds_cons (ve_int) (vds_nil)))))) (vw_or (vb_not (vb_val (ve_call (c_is_integer.mono (by decide)) hr body_takes (vds_cons (ve_ixv (i := 0) (ve_int)) (vds_nil))))) (vw_or1 (vb_not (vb_val (ve_call (c_is_integer.mono (by decide)) hr body_takes (vds_cons (ve_ixv (i := 0) (ve_int)) (vds_nil)))))))).vb) (vss_one (vs_ret (ve_bl))) (vss_nil)) (vss_one (vs_ret (ve_chain ov_le ov_le (ve_int) (ve_ixv (i := 0) (ve_int)) (ve_ixv (i := 0) (ve_int)))))

/-! ### is_kind -/
abbrev S_is_kind : Stmt := topS 9
theorem sc_is_kind : FnScope ["kinds", "thing"] ["kinds", "thing"] (defScope S_is_kind) := ⟨rfl, rfl, rfl, by decide +kernel, rfl, by decide +kernel, by decide +kernel⟩
theorem w_is_kind (bt : Blt mg) (F : Fun K "is_kind" "is_kind" S_is_kind f fd) (b : Binds K fd ["kinds", "thing"] []) (hm : mg "is_kind" = some (.ref f)) (c_is_integer : FnV P w K mg base "is_integer" 1 m_is_integer) : FnV P w K mg base "is_kind" 2 m_is_kind :=
  fnv_run (k := 1) F sc_is_kind hm b fun n cdv A outer s H E hr =>
    vss_one (vs_ret (ve_and (ve_call (c_is_integer.mono (by decide)) hr body_takes (vds_cons (ve_var 1) (vds_nil))) (ve_one (ve_chain ov_le ov_lt (ve_int) (ve_var 1) (ve_var 0)))))

/-! ### is_piece_side -/
abbrev S_is_piece_side : Stmt := topS 10
theorem sc_is_piece_side : FnScope ["kinds", "thing", "row", "unknown", "shift"] ["kinds", "thing"] (defScope S_is_piece_side) := ⟨rfl, rfl, rfl, by decide +kernel, rfl, by decide +kernel, by decide +kernel⟩
theorem w_is_piece_side (bt : Blt mg) (F : Fun K "is_piece_side" "is_piece_side" S_is_piece_side f fd) (b : Binds K fd ["kinds", "thing"] []) (hm : mg "is_piece_side" = some (.ref f)) (c_is_kind : FnV P w K mg base "is_kind" 2 m_is_kind) (c_is_integer : FnV P w K mg base "is_integer" 1 m_is_integer) (c_is_bounds : FnV P w K mg base "is_bounds" 2 m_is_bounds) (k_FAR : GC K mg "FAR" (.int 3)) : FnV P w K mg base "is_piece_side" 3 m_is_piece_side :=
  fnv_run (k := 2) F sc_is_piece_side hm b fun n cdv A outer s H E hr =>
    vss_cons (vs_if ((vw_or (vb_not (vb_val (ve_isi (ve_var 1) (by rfl) bt.isinstance (by rfl) bt.tuple bo_tuple))) (vw_or (vb_cmp (ov_ne (hr.mono (Nat.zero_le _))) (ve_lenv (i := 1) (by rfl) bt.len) (ve_int) (by rfl)) (vw_or1 (vb_not (vb_val (ve_call (c_is_bounds.mono (by decide)) hr body_takes (vds_cons (ve_slv (i := 1) (vo_some (ve_int)) (vo_none)) (vds_nil)))))))).vb) (vss_one (vs_ret (ve_bl))) (vss_nil)) (vss_cons (vs_asg (vs := [2, 3, 4]) (ve_slv (i := 1) (vo_none) (vo_some (ve_int))) (vg_tup rfl (vgs_cons (vg_nm (i := 2) sc_is_piece_side.nd) (vgs_cons (vg_nm (i := 3) sc_is_piece_side.nd) (vgs_cons (vg_nm (i := 4) sc_is_piece_side.nd) (vgs_nil)))) (pCons_len (pCons_len (pCons_len pNil_len))))) (vss_one (vs_ret (ve_and (ve_call (c_is_kind.mono (by decide)) hr body_takes (vds_cons (ve_var 0) (vds_cons (ve_var 2) (vds_nil)))) (ve_and (ve_call (c_is_kind.mono (by decide)) hr body_takes (vds_cons (ve_var 0) (vds_cons (ve_var 3) (vds_nil)))) (ve_and (ve_call (c_is_integer.mono (by decide)) hr body_takes (vds_cons (ve_var 4) (vds_nil))) (ve_one (ve_chain ov_le ov_le (ve_un uv_neg (ve_gc k_FAR)) (ve_var 4) (ve_gc k_FAR)))))))))

/-! ### is_piece -/
abbrev S_is_piece : Stmt := topS 11
theorem sc_is_piece : FnScope ["thing", "kinds", "sides", "rights", "right", "side"] ["thing"] (defScope S_is_piece) := ⟨rfl, rfl, rfl, by decide +kernel, rfl, by decide +kernel, by decide +kernel⟩
theorem w_is_piece (bt : Blt mg) (F : Fun K "is_piece" "is_piece" S_is_piece f fd) (b : Binds K fd ["thing"] []) (hm : mg "is_piece" = some (.ref f)) (c_is_integer : FnV P w K mg base "is_integer" 1 m_is_integer) (c_is_bounds : FnV P w K mg base "is_bounds" 2 m_is_bounds) (c_is_piece_side : FnV P w K mg base "is_piece_side" 3 m_is_piece_side) : FnV P w K mg base "is_piece" 4 m_is_piece :=
  fnv_run (k := 3) F sc_is_piece hm b fun n cdv A outer s H E hr =>
    vss_cons (vs_if ((vw_or (vb_not (vb_val (ve_isi (ve_var 0) (by rfl) bt.isinstance (by rfl) bt.tuple bo_tuple))) (vw_or1 (vb_cmp (ov_ne (hr.mono (Nat.zero_le _))) (ve_lenv (i := 0) (by rfl) bt.len) (ve_int) (by rfl)))).vb) (vss_one (vs_ret (ve_bl))) (vss_nil)) (vss_cons (vs_asg (vs := [1, 2, 3]) (ve_var 0) (vg_tup rfl (vgs_cons (vg_nm (i := 1) sc_is_piece.nd) (vgs_cons (vg_nm (i := 2) sc_is_piece.nd) (vgs_cons (vg_nm (i := 3) sc_is_piece.nd) (vgs_nil)))) (pCons_len (pCons_len (pCons_len pNil_len))))) (vss_cons (vs_if ((vw_or (vb_not (vb_val (ve_call (c_is_integer.mono (by decide)) hr body_takes (vds_cons (ve_var 1) (vds_nil))))) (vw_or (vb_not (vb_chain ov_le ov_le (ve_int) (ve_var 1) (ve_int))) (vw_or (vb_not (vb_val (ve_isi (ve_var 2) (by rfl) bt.isinstance (by rfl) bt.tuple bo_tuple))) (vw_or1 (vb_not (vb_val (ve_isi (ve_var 3) (by rfl) bt.isinstance (by rfl) bt.tuple bo_tuple))))))).vb) (vss_one (vs_ret (ve_bl))) (vss_nil)) (vss_cons (vs_if ((vw_or (vb_not (vb_val (ve_callB (cv_all rfl) (by rfl) bt.all bo_all (vds_cons (ve_lc [("side", 5)] rfl sc_is_piece.nd (blkOk_by (by rfl)) (vi_seq (ve_var 2)) (fun s H C cl fp => vg_nm (i := 5) sc_is_piece.nd) (fun s H C cl fp => vts_nil) (fun s H C cl fp => ve_call (c_is_piece_side.mono (by decide)) hr tk0 (vds_cons (ve_var 1) (vds_cons (ve_var 5) (vds_nil))))) (vds_nil))))) (vw_or1 (vb_cmp (ov_ne (hr.mono (Nat.zero_le _))) (ve_callTy cv_list (by rfl) bt.list bo_list (vds_cons (ve_var 2) (vds_nil))) (ve_callB (cv_sorted (hr.mono (Nat.zero_le _))) (by rfl) bt.sorted bo_sorted (vds_cons (ve_var 2) (vds_nil))) (by rfl)))).vb) (vss_one (vs_ret (ve_bl))) (vss_nil)) (vss_one (vs_ret (ve_and (ve_cmp (ov_eq (hr.mono (Nat.zero_le _))) (ve_lenv (i := 3) (by rfl) bt.len) (ve_var 1) (by rfl)) (ve_one (ve_callB (cv_all rfl) (by rfl) bt.all bo_all (vds_cons (ve_lc [("right", 4)] rfl sc_is_piece.nd (blkOk_by (by rfl)) (vi_seq (ve_var 3)) (fun s H C cl fp => vg_nm (i := 4) sc_is_piece.nd) (fun s H C cl fp => vts_nil) (fun s H C cl fp => ve_call (c_is_bounds.mono (by decide)) hr tk0 (vds_cons (ve_var 4) (vds_nil)))) (vds_nil))))))))))

/-! ### ring_row -/
abbrev S_ring_row : Stmt := topS 12
theorem sc_ring_row : FnScope ["piece", "many", "place", "kind", "kinds", "sides", "rights", "found", "row", "unknown", "shift", "least", "greatest"] ["piece", "many", "place", "kind"] (defScope S_ring_row) := ⟨rfl, rfl, rfl, by decide +kernel, rfl, by decide +kernel, by decide +kernel⟩
theorem w_ring_row (bt : Blt mg) (F : Fun K "ring_row" "ring_row" S_ring_row f fd) (b : Binds K fd ["piece", "many", "place", "kind"] []) (hm : mg "ring_row" = some (.ref f)) : FnV P w K mg base "ring_row" 1 m_ring_row :=
  fnv_run (k := 0) F sc_ring_row hm b fun n cdv A outer s H E hr =>
    vss_cons (vs_asg (vs := [4, 5, 6]) (ve_var 0) (vg_tup rfl (vgs_cons (vg_nm (i := 4) sc_ring_row.nd) (vgs_cons (vg_nm (i := 5) sc_ring_row.nd) (vgs_cons (vg_nm (i := 6) sc_ring_row.nd) (vgs_nil)))) (pCons_len (pCons_len (pCons_len pNil_len))))) (vss_cons (vs_set (i := 7) sc_ring_row.nd (ve_lst (vds_nil))) (vss_cons (vs_for (vs := [8, 9, 10, 11, 12]) rfl (passes_of rfl) (vi_seq (ve_var 5)) (vg_tup rfl (vgs_cons (vg_nm (i := 8) sc_ring_row.nd) (vgs_cons (vg_nm (i := 9) sc_ring_row.nd) (vgs_cons (vg_nm (i := 10) sc_ring_row.nd) (vgs_cons (vg_nm (i := 11) sc_ring_row.nd) (vgs_cons (vg_nm (i := 12) sc_ring_row.nd) (vgs_nil)))))) (pCons_len (pCons_len (pCons_len (pCons_len (pCons_len pNil_len)))))) (vss_one (vs_if (vb_cmp (ov_eq (hr.mono (Nat.zero_le _))) (ve_var 8) (ve_var 3) (by rfl)) (vss_one (vs_app (i := 7) (ve_tup (vds_cons (ve_bin ov_add (ve_bin ov_mul2 (ve_bin ov_mod (ve_bin ov_add (ve_var 2) (ve_var 10)) (ve_var 1)) (ve_var 4)) (ve_var 9)) (vds_cons (ve_var 11) (vds_cons (ve_var 12) (vds_nil))))))) (vss_nil)))) (vss_one (vs_ret (ve_tup (vds_cons (ve_callTy cv_tuple (by rfl) bt.tuple bo_tuple (vds_cons (ve_callB (cv_sorted (hr.mono (Nat.zero_le _))) (by rfl) bt.sorted bo_sorted (vds_cons (ve_var 7) (vds_nil))) (vds_nil))) (vds_cons (ve_ixv (i := 6) (ve_var 3)) (vds_nil))))))))

/-! ### ring_table -/
abbrev S_ring_table : Stmt := topS 13
theorem sc_ring_table : FnScope ["piece", "many", "rows", "place", "kind"] ["piece", "many"] (defScope S_ring_table) := ⟨rfl, rfl, rfl, by decide +kernel, rfl, by decide +kernel, by decide +kernel⟩
theorem w_ring_table (bt : Blt mg) (F : Fun K "ring_table" "ring_table" S_ring_table f fd) (b : Binds K fd ["piece", "many"] []) (hm : mg "ring_table" = some (.ref f)) (c_ring_row : FnV P w K mg base "ring_row" 1 m_ring_row) : FnV P w K mg base "ring_table" 2 m_ring_table :=
  fnv_run (k := 1) F sc_ring_table hm b fun n cdv A outer s H E hr =>
    vss_cons (vs_set (i := 2) sc_ring_table.nd (ve_lst (vds_nil))) (vss_cons (vs_for (vs := [3]) rfl (passes_of rfl) (wi_range1 (by rfl) bt.range (vds_cons (ve_var 1) (vds_nil))) (vg_nm (i := 3) sc_ring_table.nd) (vss_one (vs_ext (i := 2) (ve_lc [("kind", 4)] rfl sc_ring_table.nd (blkOk_by (by rfl)) (wi_range1 (by rfl) bt.range (vds_cons (ve_ixv (i := 0) (ve_int)) (vds_nil))) (fun s H C cl fp => vg_nm (i := 4) sc_ring_table.nd) (fun s H C cl fp => vts_nil) (fun s H C cl fp => ve_call (c_ring_row.mono (by decide)) hr tk0 (vds_cons (ve_var 0) (vds_cons (ve_var 1) (vds_cons (ve_var 3) (vds_cons (ve_var 4) (vds_nil)))))))))) (vss_one (vs_ret (ve_tup (vds_cons (ve_bin ov_mul2 (ve_var 1) (ve_ixv (i := 0) (ve_int))) (vds_cons (ve_callTy cv_tuple (by rfl) bt.tuple bo_tuple (vds_cons (ve_var 2) (vds_nil))) (vds_nil)))))))

/-! ### spread -/
abbrev S_spread : Stmt := topS 14
theorem sc_spread : FnScope ["items", "many"] ["items", "many"] (defScope S_spread) := ⟨rfl, rfl, rfl, by decide +kernel, rfl, by decide +kernel, by decide +kernel⟩
theorem w_spread (bt : Blt mg) (F : Fun K "spread" "spread" S_spread f fd) (b : Binds K fd ["items", "many"] []) (hm : mg "spread" = some (.ref f)) : FnV P w K mg base "spread" 1 m_spread :=
  fnv_run (k := 0) F sc_spread hm b fun n cdv A outer s H E hr =>
    vss_one (vs_ret (ve_bin ov_mul2 (ve_var 0) (ve_var 1)))

/-! ### _law_bag -/
abbrev S__law_bag : Stmt := topS 16
theorem sc__law_bag : FnScope ["script", "cell"] ["script"] (defScope S__law_bag) := ⟨rfl, rfl, rfl, by decide +kernel, rfl, by decide +kernel, by decide +kernel⟩
theorem w__law_bag (bt : Blt mg) (F : Fun K "_law_bag" "_law_bag" S__law_bag f fd) (b : Binds K fd ["script"] []) (hm : mg "_law_bag" = some (.ref f)) : FnV P w K mg base "_law_bag" 1 m__law_bag :=
  fnv_run (k := 0) F sc__law_bag hm b fun n cdv A outer s H E hr =>
    vss_one (vs_ret (ve_lst (vds_cons (ve_int) (vds_cons (ve_int) (vds_cons (ve_int) (vds_cons (ve_lc [("cell", 1)] rfl sc__law_bag.nd (blkOk_by (by rfl)) (vi_seq (ve_slice (ve_var 0) (vo_none) (vo_some (ve_int)))) (fun s H C cl fp => vg_nm (i := 1) sc__law_bag.nd) (fun s H C cl fp => vts_nil) (fun s H C cl fp => ve_callB cv_abs (by rfl) bt.abs bo_abs (vds_cons (ve_var 1) (vds_nil)))) (vds_nil)))))))

/-! ### _law_take -/
abbrev S__law_take : Stmt := topS 17
theorem sc__law_take : FnScope ["bag", "many", "cell", "stirred", "value", "begin", "second"] ["bag", "many"] (defScope S__law_take) := ⟨rfl, rfl, rfl, by decide +kernel, rfl, by decide +kernel, by decide +kernel⟩
theorem w__law_take (bt : Blt mg) (F : Fun K "_law_take" "_law_take" S__law_take f fd) (b : Binds K fd ["bag", "many"] []) (hm : mg "_law_take" = some (.ref f)) : FnB P w K mg base "_law_take" 1 m__law_take :=
  fnb_run (k := 0) F sc__law_take hm b fun n cdv A outer s H E hr =>
    vss_cons (vs_if (vb_cmp (ov_eq (hr.mono (Nat.zero_le _))) (ve_ixv (i := 0) (ve_int)) (ve_int) (by rfl)) (vss_cons (vs_set (i := 2) sc__law_take.nd (ve_ix iv_ix (ve_bin ov_add (ve_slice (ve_ixv (i := 0) (ve_int)) (vo_some (ve_ixv (i := 0) (ve_int))) (vo_none)) (ve_lst (vds_cons (ve_int) (vds_nil)))) (ve_int))) (vss_cons (vs_augS (i := 0) ip_add (ve_int) (ve_int)) (vss_cons (vs_if (vb_cmp ov_ge (ve_var 2) (ve_bin ov_pow (ve_int) (ve_int)) (by rfl)) (vss_one (vs_store (i := 0) (ve_var 2) (ve_int))) (vss_nil)) (vss_cons (vs_set (i := 3) sc__law_take.nd (ve_bin ov_add (ve_bin ov_add (ve_bin ov_mul (ve_ixv (i := 0) (ve_int)) (ve_int)) (ve_bin ov_mod (ve_callTy cv_int (by rfl) bt.int bo_int (vds_cons (ve_var 2) (vds_nil))) (ve_int))) (ve_bin ov_mul (ve_int) (ve_ixv (i := 0) (ve_int))))) (vss_one (vs_store (i := 0) (ve_bin ov_mod (ve_callTy cv_int (by rfl) bt.int bo_int (vds_cons (ve_var 3) (vds_nil))) (ve_int)) (ve_int))))))) (vss_nil)) (vss_cons (vs_if (vb_cmp ov_gt (ve_ixv (i := 0) (ve_int)) (ve_int) (by rfl)) (vss_cons (vs_set (i := 4) sc__law_take.nd (ve_bin ov_mod (ve_callTy cv_int (by rfl) bt.int bo_int (vds_cons (ve_ixv (i := 0) (ve_int)) (vds_nil))) (ve_var 1))) (vss_cons (vs_store (i := 0) (ve_bin ov_fdiv (ve_callTy cv_int (by rfl) bt.int bo_int (vds_cons (ve_ixv (i := 0) (ve_int)) (vds_nil))) (ve_var 1)) (ve_int)) (vss_one (vs_retv 4)))) (vss_nil)) (vss_cons (vs_set (i := 5) sc__law_take.nd (ve_bin ov_mod (ve_callTy cv_int (by rfl) bt.int bo_int (vds_cons (ve_bin ov_mul (ve_bin ov_add (ve_ixv (i := 0) (ve_int)) (ve_int)) (ve_int)) (vds_nil))) (ve_int))) (vss_cons (vs_set (i := 6) sc__law_take.nd (ve_bin ov_mod (ve_callTy cv_int (by rfl) bt.int bo_int (vds_cons (ve_bin ov_mul (ve_bin ov_mod (ve_callTy cv_int (by rfl) bt.int bo_int (vds_cons (ve_bin ov_mul (ve_var 5) (ve_var 5)) (vds_nil))) (ve_int)) (ve_int)) (vds_nil))) (ve_int))) (vss_one (vs_ret (ve_bin ov_mod (ve_callTy cv_int (by rfl) bt.int bo_int (vds_cons (ve_bin ov_fdiv (ve_var 6) (ve_int)) (vds_nil))) (ve_var 1)))))))

/-! ### _law_one -/
abbrev S__law_one : Stmt := topS 18
theorem sc__law_one : FnScope ["bag", "things"] ["bag", "things"] (defScope S__law_one) := ⟨rfl, rfl, rfl, by decide +kernel, rfl, by decide +kernel, by decide +kernel⟩
theorem w__law_one (bt : Blt mg) (F : Fun K "_law_one" "_law_one" S__law_one f fd) (b : Binds K fd ["bag", "things"] []) (hm : mg "_law_one" = some (.ref f)) (c__law_take : FnB P w K mg base "_law_take" 1 m__law_take) : FnB P w K mg base "_law_one" 2 m__law_one :=
  fnb_run (k := 1) F sc__law_one hm b fun n cdv A outer s H E hr =>
    vss_one (vs_ret (ve_ixv (i := 1) (ve_callBag (i := 0) (c__law_take.mono (by decide)) hr body_takes (vds_cons (ve_lenv (i := 1) (by rfl) bt.len) (vds_nil)))))

/-! ### _law_mixed -/
abbrev S__law_mixed : Stmt := topS 19
theorem sc__law_mixed : FnScope ["bag", "things", "found", "thing"] ["bag", "things"] (defScope S__law_mixed) := ⟨rfl, rfl, rfl, by decide +kernel, rfl, by decide +kernel, by decide +kernel⟩
theorem w__law_mixed (bt : Blt mg) (F : Fun K "_law_mixed" "_law_mixed" S__law_mixed f fd) (b : Binds K fd ["bag", "things"] []) (hm : mg "_law_mixed" = some (.ref f)) (c__law_take : FnB P w K mg base "_law_take" 1 m__law_take) : FnB P w K mg base "_law_mixed" 2 m__law_mixed :=
  fnb_run (k := 1) F sc__law_mixed hm b fun n cdv A outer s H E hr =>
    vss_cons (vs_set (i := 2) sc__law_mixed.nd (ve_lst (vds_nil))) (vss_cons (vs_for (vs := [3]) rfl (passes_of rfl) (vi_seq (ve_var 1)) (vg_nm (i := 3) sc__law_mixed.nd) (vss_one (vs_ins (i := 2) (vds_cons (ve_callBag (i := 0) (c__law_take.mono (by decide)) hr body_takes (vds_cons (ve_bin ov_add (ve_lenv (i := 2) (by rfl) bt.len) (ve_int)) (vds_nil))) (vds_cons (ve_var 3) (vds_nil)))))) (vss_one (vs_retv 2)))

/-! ### _law_alike -/
abbrev S__law_alike : Stmt := topS 20
theorem sc__law_alike : FnScope ["found", "due"] ["found", "due"] (defScope S__law_alike) := ⟨rfl, rfl, rfl, by decide +kernel, rfl, by decide +kernel, by decide +kernel⟩
theorem w__law_alike (bt : Blt mg) (F : Fun K "_law_alike" "_law_alike" S__law_alike f fd) (b : Binds K fd ["found", "due"] []) (hm : mg "_law_alike" = some (.ref f)) : FnV P w K mg base "_law_alike" 1 m__law_alike :=
  fnv_run (k := 0) F sc__law_alike hm b fun n cdv A outer s H E hr =>
    vss_one (vs_ret (ve_and (ve_cmp (ov_eq (hr.mono (Nat.zero_le _))) (ve_var 0) (ve_var 1) (by rfl)) (ve_one (ve_cmp (ov_eq (hr.mono (Nat.zero_le _))) (ve_callB (cv_repr (hr.mono (Nat.zero_le _))) (by rfl) bt.repr bo_repr (vds_cons (ve_var 0) (vds_nil))) (ve_callB (cv_repr (hr.mono (Nat.zero_le _))) (by rfl) bt.repr bo_repr (vds_cons (ve_var 1) (vds_nil))) (by rfl)))))

/-! ### _law_integer -/
abbrev S__law_integer : Stmt := topS 21
theorem sc__law_integer : FnScope ["thing"] ["thing"] (defScope S__law_integer) := ⟨rfl, rfl, rfl, by decide +kernel, rfl, by decide +kernel, by decide +kernel⟩
theorem w__law_integer (bt : Blt mg) (F : Fun K "_law_integer" "_law_integer" S__law_integer f fd) (b : Binds K fd ["thing"] []) (hm : mg "_law_integer" = some (.ref f)) : FnV P w K mg base "_law_integer" 1 m__law_integer :=
  fnv_run (k := 0) F sc__law_integer hm b fun n cdv A outer s H E hr =>
    vss_one (vs_ret (ve_and (ve_isi (ve_var 0) (by rfl) bt.isinstance (by rfl) bt.int bo_int) (ve_one (ve_not (ve_isi (ve_var 0) (by rfl) bt.isinstance (by rfl) bt.bool bo_bool)))))

/-! ### _law_bounds -/
abbrev S__law_bounds : Stmt := topS 22
theorem sc__law_bounds : FnScope ["bag", "most", "one", "other"] ["bag", "most"] (defScope S__law_bounds) := ⟨rfl, rfl, rfl, by decide +kernel, rfl, by decide +kernel, by decide +kernel⟩
theorem w__law_bounds (bt : Blt mg) (F : Fun K "_law_bounds" "_law_bounds" S__law_bounds f fd) (b : Binds K fd ["bag", "most"] []) (hm : mg "_law_bounds" = some (.ref f)) (c__law_one : FnB P w K mg base "_law_one" 2 m__law_one) (c__law_take : FnB P w K mg base "_law_take" 1 m__law_take) : FnB P w K mg base "_law_bounds" 3 m__law_bounds :=
  fnb_run (k := 2) F sc__law_bounds hm b fun n cdv A outer s H E hr =>
    vss_cons (vs_set (i := 2) sc__law_bounds.nd (ve_callBag (i := 0) (c__law_one.mono (by decide)) hr body_takes (vds_cons (ve_lst (vds_cons (ve_int) (vds_cons (ve_int) (vds_cons (ve_int) (vds_cons (ve_var 1) (vds_cons (ve_callBag (i := 0) (c__law_take.mono (by decide)) hr body_takes (vds_cons (ve_bin ov_add (ve_var 1) (ve_int)) (vds_nil))) (vds_nil))))))) (vds_nil)))) (vss_cons (vs_set (i := 3) sc__law_bounds.nd (ve_callBag (i := 0) (c__law_one.mono (by decide)) hr body_takes (vds_cons (ve_lst (vds_cons (ve_var 2) (vds_cons (ve_bin ov_add (ve_var 2) (ve_int)) (vds_cons (ve_var 2) (vds_cons (ve_var 1) (vds_cons (ve_bin ov_mul (ve_int) (ve_var 2)) (vds_cons (ve_bin ov_add (ve_var 2) (ve_callBag (i := 0) (c__law_take.mono (by decide)) hr body_takes (vds_cons (ve_int) (vds_nil)))) (vds_nil)))))))) (vds_nil)))) (vss_cons (vs_par2 (i := 2) (j := 3) rfl sc__law_bounds.nd (vls_cons (ve_callB (cv_min rfl) (by rfl) bt.min bo_min (vds_cons (ve_var 2) (vds_cons (ve_var 1) (vds_nil)))) (vls_cons (ve_callB (cv_min rfl) (by rfl) bt.min bo_min (vds_cons (ve_var 3) (vds_cons (ve_var 1) (vds_nil)))) (vls_nil))) (by rfl) rfl rfl) (vss_one (vs_ret (ve_tup (vds_cons (ve_callB (cv_min rfl) (by rfl) bt.min bo_min (vds_cons (ve_var 2) (vds_cons (ve_var 3) (vds_nil)))) (vds_cons (ve_callB (cv_max rfl) (by rfl) bt.max bo_max (vds_cons (ve_var 2) (vds_cons (ve_var 3) (vds_nil)))) (vds_nil))))))))

/-! ### _law_piece -/
abbrev S__law_piece : Stmt := topS 23
theorem sc__law_piece : FnScope ["bag", "kinds", "many", "sides", "turn", "least", "greatest", "shift", "rights", "kind"] ["bag", "kinds"] (defScope S__law_piece) := ⟨rfl, rfl, rfl, by decide +kernel, rfl, by decide +kernel, by decide +kernel⟩
theorem w__law_piece (bt : Blt mg) (F : Fun K "_law_piece" "_law_piece" S__law_piece f fd) (b : Binds K fd ["bag", "kinds"] []) (hm : mg "_law_piece" = some (.ref f)) (c__law_one : FnB P w K mg base "_law_one" 2 m__law_one) (c__law_bounds : FnB P w K mg base "_law_bounds" 3 m__law_bounds) (c__law_take : FnB P w K mg base "_law_take" 1 m__law_take) : FnB P w K mg base "_law_piece" 4 m__law_piece :=
  fnb_run (k := 3) F sc__law_piece hm b fun n cdv A outer s H E hr =>
    vss_cons (vs_par2 (i := 2) (j := 3) rfl sc__law_piece.nd (vls_cons (ve_bin ov_add (ve_int) (ve_callBag (i := 0) (c__law_take.mono (by decide)) hr body_takes (vds_cons (ve_var 1) (vds_nil)))) (vls_cons (ve_lst (vds_nil)) (vls_nil))) (by rfl) rfl rfl) (vss_cons (vs_for (vs := [4]) rfl (passes_of rfl) (wi_range1 (by rfl) bt.range (vds_cons (ve_callBag (i := 0) (c__law_one.mono (by decide)) hr body_takes (vds_cons (ve_lst (vds_cons (ve_int) (vds_cons (ve_int) (vds_cons (ve_int) (vds_cons (ve_int) (vds_cons (ve_int) (vds_cons (ve_int) (vds_nil)))))))) (vds_nil))) (vds_nil))) (vg_nm (i := 4) sc__law_piece.nd) (vss_cons (vs_asg (vs := [5, 6]) (ve_callBag (i := 0) (c__law_bounds.mono (by decide)) hr body_takes (vds_cons (ve_callBag (i := 0) (c__law_one.mono (by decide)) hr body_takes (vds_cons (ve_lst (vds_cons (ve_int) (vds_cons (ve_int) (vds_cons (ve_int) (vds_nil))))) (vds_nil))) (vds_nil))) (vg_tup rfl (vgs_cons (vg_nm (i := 5) sc__law_piece.nd) (vgs_cons (vg_nm (i := 6) sc__law_piece.nd) (vgs_nil))) (pCons_len (pCons_len pNil_len)))) (vss_cons (vs_set (i := 7) sc__law_piece.nd (ve_callBag (i := 0) (c__law_one.mono (by decide)) hr body_takes (vds_cons (ve_lst (vds_cons (ve_int) (vds_cons (ve_int) (vds_cons (ve_int) (vds_cons (ve_un uv_neg (ve_int)) (vds_cons (ve_int) (vds_cons (ve_un uv_neg (ve_int)) (vds_cons (ve_int) (vds_nil))))))))) (vds_nil)))) (vss_cons (vs_app (i := 3) (ve_tup (vds_cons (ve_callBag (i := 0) (c__law_take.mono (by decide)) hr body_takes (vds_cons (ve_var 2) (vds_nil))) (vds_cons (ve_callBag (i := 0) (c__law_take.mono (by decide)) hr body_takes (vds_cons (ve_var 2) (vds_nil))) (vds_cons (ve_var 7) (vds_cons (ve_var 5) (vds_cons (ve_var 6) (vds_nil)))))))) (vss_one (vs_if (vb_cmp (ov_eq (hr.mono (Nat.zero_le _))) (ve_callBag (i := 0) (c__law_take.mono (by decide)) hr body_takes (vds_cons (ve_int) (vds_nil))) (ve_int) (by rfl)) (vss_one (vs_app (i := 3) (ve_ixv (i := 3) (ve_un uv_neg (ve_int))))) (vss_nil))))))) (vss_cons (vs_set (i := 8) sc__law_piece.nd (ve_callTy cv_tuple (by rfl) bt.tuple bo_tuple (vds_cons (ve_lc [("kind", 9)] rfl sc__law_piece.nd (blkOk_by (by rfl)) (wi_range1 (by rfl) bt.range (vds_cons (ve_var 2) (vds_nil))) (fun s H C cl fp => vg_nm (i := 9) sc__law_piece.nd) (fun s H C cl fp => vts_nil) (fun s H C cl fp => ve_callBag (i := 0) (c__law_one.mono (by decide)) hr tk0 (vds_cons (ve_lst (vds_cons (ve_tup (vds_cons (ve_int) (vds_cons (ve_int) (vds_nil)))) (vds_cons (ve_tup (vds_cons (ve_int) (vds_cons (ve_int) (vds_nil)))) (vds_cons (ve_tup (vds_cons (ve_int) (vds_cons (ve_int) (vds_nil)))) (vds_cons (ve_tup (vds_cons (ve_int) (vds_cons (ve_int) (vds_nil)))) (vds_nil)))))) (vds_nil)))) (vds_nil)))) (vss_one (vs_ret (ve_tup (vds_cons (ve_var 2) (vds_cons (ve_callTy cv_tuple (by rfl) bt.tuple bo_tuple (vds_cons (ve_slice (ve_callB (cv_sorted (hr.mono (Nat.zero_le _))) (by rfl) bt.sorted bo_sorted (vds_cons (ve_var 3) (vds_nil))) (vo_none) (vo_some (ve_int))) (vds_nil))) (vds_cons (ve_var 8) (vds_nil)))))))))

/-! ### _law_heavy_piece -/
abbrev S__law_heavy_piece : Stmt := topS 24
theorem sc__law_heavy_piece : FnScope ["bag", "kinds", "diagonal", "many", "own", "weights", "sides", "kind", "need", "turn", "other", "high", "low", "rights"] ["bag", "kinds", "diagonal"] (defScope S__law_heavy_piece) := ⟨rfl, rfl, rfl, by decide +kernel, rfl, by decide +kernel, by decide +kernel⟩
theorem w__law_heavy_piece (bt : Blt mg) (F : Fun K "_law_heavy_piece" "_law_heavy_piece" S__law_heavy_piece f fd) (b : Binds K fd ["bag", "kinds", "diagonal"] []) (hm : mg "_law_heavy_piece" = some (.ref f)) (c__law_take : FnB P w K mg base "_law_take" 1 m__law_take) (c__law_mixed : FnB P w K mg base "_law_mixed" 2 m__law_mixed) (c__law_one : FnB P w K mg base "_law_one" 2 m__law_one) : FnB P w K mg base "_law_heavy_piece" 3 m__law_heavy_piece :=
  fnb_run (k := 2) F sc__law_heavy_piece hm b fun n cdv A outer s H E hr =>
    vss_cons (vs_set (i := 3) sc__law_heavy_piece.nd (ve_bin ov_add (ve_int) (ve_callBag (i := 0) (c__law_take.mono (by decide)) hr body_takes (vds_cons (ve_var 1) (vds_nil))))) (vss_cons (vs_par3 (i := 4) (j := 5) (l := 6) rfl sc__law_heavy_piece.nd (vls_cons (ve_callBag (i := 0) (c__law_mixed.mono (by decide)) hr body_takes (vds_cons (ve_listR rfl (by rfl) bt.list (by rfl) bt.range (ve_var 3)) (vds_nil))) (vls_cons (ve_lc [("kind", 7)] rfl sc__law_heavy_piece.nd (blkOk_by (by rfl)) (wi_range1 (by rfl) bt.range (vds_cons (ve_var 3) (vds_nil))) (fun s H C cl fp => vg_nm (i := 7) sc__law_heavy_piece.nd) (fun s H C cl fp => vts_nil) (fun s H C cl fp => ve_bin ov_add (ve_int) (ve_callBag (i := 0) (c__law_take.mono (by decide)) hr tk0 (vds_cons (ve_int) (vds_nil))))) (vls_cons (ve_lst (vds_nil)) (vls_nil)))) (by rfl) rfl rfl rfl) (vss_cons (vs_if (vb_val (ve_var 2)) (vss_one (vs_set (i := 4) sc__law_heavy_piece.nd (ve_listR rfl (by rfl) bt.list (by rfl) bt.range (ve_var 3)))) (vss_nil)) (vss_cons (vs_for (vs := [7]) rfl (passes_of rfl) (wi_range1 (by rfl) bt.range (vds_cons (ve_var 3) (vds_nil))) (vg_nm (i := 7) sc__law_heavy_piece.nd) (vss_cons (vs_set (i := 8) sc__law_heavy_piece.nd (ve_int)) (vss_cons (vs_for (vs := [9]) rfl (passes_of rfl) (wi_range1 (by rfl) bt.range (vds_cons (ve_callBag (i := 0) (c__law_take.mono (by decide)) hr body_takes (vds_cons (ve_int) (vds_nil))) (vds_nil))) (vg_nm (i := 9) sc__law_heavy_piece.nd) (vss_cons (vs_par2 (i := 10) (j := 11) rfl sc__law_heavy_piece.nd (vls_cons (ve_callBag (i := 0) (c__law_take.mono (by decide)) hr body_takes (vds_cons (ve_var 3) (vds_nil))) (vls_cons (ve_callBag (i := 0) (c__law_one.mono (by decide)) hr body_takes (vds_cons (ve_lst (vds_cons (ve_int) (vds_cons (ve_int) (vds_cons (ve_int) (vds_nil))))) (vds_nil))) (vls_nil))) (by rfl) rfl rfl) (vss_cons (vs_app (i := 6) (ve_tup (vds_cons (ve_ixv (i := 4) (ve_var 7)) (vds_cons (ve_var 10) (vds_cons (ve_callBag (i := 0) (c__law_one.mono (by decide)) hr body_takes (vds_cons (ve_lst (vds_cons (ve_int) (vds_cons (ve_un uv_neg (ve_int)) (vds_cons (ve_int) (vds_cons (ve_int) (vds_cons (ve_int) (vds_nil))))))) (vds_nil))) (vds_cons (ve_callBag (i := 0) (c__law_take.mono (by decide)) hr body_takes (vds_cons (ve_bin ov_add (ve_var 11) (ve_int)) (vds_nil))) (vds_cons (ve_var 11) (vds_nil)))))))) (vss_one (vs_aug (i := 8) sc__law_heavy_piece.nd ip_add (ve_bin ov_mul2 (ve_var 11) (ve_ixv (i := 5) (ve_var 10)))))))) (vss_cons (vs_set (i := 12) sc__law_heavy_piece.nd (ve_bin ov_fdiv (ve_bin ov_sub (ve_bin ov_add (ve_var 8) (ve_ixv (i := 5) (ve_var 7))) (ve_int)) (ve_ixv (i := 5) (ve_var 7)))) (vss_one (vs_app (i := 6) (ve_tup (vds_cons (ve_ixv (i := 4) (ve_var 7)) (vds_cons (ve_var 7) (vds_cons (ve_if (vb_val (ve_var 2)) (ve_int) (ve_callBag (i := 0) (c__law_one.mono (by decide)) hr body_takes (vds_cons (ve_lst (vds_cons (ve_int) (vds_cons (ve_int) (vds_cons (ve_un uv_neg (ve_int)) (vds_cons (ve_int) (vds_nil)))))) (vds_nil)))) (vds_cons (ve_var 12) (vds_cons (ve_bin ov_add (ve_var 12) (ve_callBag (i := 0) (c__law_take.mono (by decide)) hr body_takes (vds_cons (ve_int) (vds_nil)))) (vds_nil))))))))))))) (vss_cons (vs_set (i := 13) sc__law_heavy_piece.nd (ve_callTy cv_tuple (by rfl) bt.tuple bo_tuple (vds_cons (ve_lc [("kind", 7)] rfl sc__law_heavy_piece.nd (blkOk_by (by rfl)) (wi_range1 (by rfl) bt.range (vds_cons (ve_var 3) (vds_nil))) (fun s H C cl fp => vg_nm (i := 7) sc__law_heavy_piece.nd) (fun s H C cl fp => vts_nil) (fun s H C cl fp => ve_callBag (i := 0) (c__law_one.mono (by decide)) hr tk0 (vds_cons (ve_lst (vds_cons (ve_tup (vds_cons (ve_int) (vds_cons (ve_int) (vds_nil)))) (vds_cons (ve_tup (vds_cons (ve_int) (vds_cons (ve_int) (vds_nil)))) (vds_cons (ve_tup (vds_cons (ve_int) (vds_cons (ve_int) (vds_nil)))) (vds_nil))))) (vds_nil)))) (vds_nil)))) (vss_one (vs_ret (ve_tup (vds_cons (ve_var 3) (vds_cons (ve_callTy cv_tuple (by rfl) bt.tuple bo_tuple (vds_cons (ve_callB (cv_sorted (hr.mono (Nat.zero_le _))) (by rfl) bt.sorted bo_sorted (vds_cons (ve_var 6) (vds_nil))) (vds_nil))) (vds_cons (ve_var 13) (vds_nil)))))))))))

/-! ### _law_any_piece -/
abbrev S__law_any_piece : Stmt := topS 25
theorem sc__law_any_piece : FnScope ["bag", "kinds", "way"] ["bag", "kinds"] (defScope S__law_any_piece) := ⟨rfl, rfl, rfl, by decide +kernel, rfl, by decide +kernel, by decide +kernel⟩
theorem w__law_any_piece (bt : Blt mg) (F : Fun K "_law_any_piece" "_law_any_piece" S__law_any_piece f fd) (b : Binds K fd ["bag", "kinds"] []) (hm : mg "_law_any_piece" = some (.ref f)) (c__law_take : FnB P w K mg base "_law_take" 1 m__law_take) (c__law_piece : FnB P w K mg base "_law_piece" 4 m__law_piece) (c__law_heavy_piece : FnB P w K mg base "_law_heavy_piece" 3 m__law_heavy_piece) : FnB P w K mg base "_law_any_piece" 5 m__law_any_piece :=
  fnb_run (k := 4) F sc__law_any_piece hm b fun n cdv A outer s H E hr =>
    vss_cons (vs_set (i := 2) sc__law_any_piece.nd (ve_callBag (i := 0) (c__law_take.mono (by decide)) hr body_takes (vds_cons (ve_int) (vds_nil)))) (vss_one (vs_ret (ve_if (vb_cmp (ov_eq (hr.mono (Nat.zero_le _))) (ve_var 2) (ve_int) (by rfl)) (ve_callBag (i := 0) (c__law_piece.mono (by decide)) hr body_takes (vds_cons (ve_var 1) (vds_nil))) (ve_callBag (i := 0) (c__law_heavy_piece.mono (by decide)) hr body_takes (vds_cons (ve_var 1) (vds_cons (ve_cmp (ov_eq (hr.mono (Nat.zero_le _))) (ve_var 2) (ve_int) (by rfl)) (vds_nil)))))))

/-! ### _law_ring -/
abbrev S__law_ring : Stmt := topS 26
theorem sc__law_ring : FnScope ["piece", "many", "kinds", "sides", "rights", "rows", "place", "kind", "mine", "row", "unknown", "shift", "least", "greatest", "at"] ["piece", "many"] (defScope S__law_ring) := ⟨rfl, rfl, rfl, by decide +kernel, rfl, by decide +kernel, by decide +kernel⟩
theorem w__law_ring (bt : Blt mg) (F : Fun K "_law_ring" "_law_ring" S__law_ring f fd) (b : Binds K fd ["piece", "many"] []) (hm : mg "_law_ring" = some (.ref f)) : FnV P w K mg base "_law_ring" 1 m__law_ring :=
  fnv_run (k := 0) F sc__law_ring hm b fun n cdv A outer s H E hr =>
    vss_cons (vs_asg (vs := [2, 3, 4]) (ve_var 0) (vg_tup rfl (vgs_cons (vg_nm (i := 2) sc__law_ring.nd) (vgs_cons (vg_nm (i := 3) sc__law_ring.nd) (vgs_cons (vg_nm (i := 4) sc__law_ring.nd) (vgs_nil)))) (pCons_len (pCons_len (pCons_len pNil_len))))) (vss_cons (vs_set (i := 5) sc__law_ring.nd (ve_lst (vds_nil))) (vss_cons (vs_for (vs := [6]) rfl (passes_of rfl) (wi_range1 (by rfl) bt.range (vds_cons (ve_var 1) (vds_nil))) (vg_nm (i := 6) sc__law_ring.nd) (vss_one (vs_for (vs := [7]) rfl (passes_of rfl) (wi_range1 (by rfl) bt.range (vds_cons (ve_var 2) (vds_nil))) (vg_nm (i := 7) sc__law_ring.nd) (vss_cons (vs_set (i := 8) sc__law_ring.nd (ve_lst (vds_nil))) (vss_cons (vs_for (vs := [9, 10, 11, 12, 13]) rfl (passes_of rfl) (vi_seq (ve_var 3)) (vg_tup rfl (vgs_cons (vg_nm (i := 9) sc__law_ring.nd) (vgs_cons (vg_nm (i := 10) sc__law_ring.nd) (vgs_cons (vg_nm (i := 11) sc__law_ring.nd) (vgs_cons (vg_nm (i := 12) sc__law_ring.nd) (vgs_cons (vg_nm (i := 13) sc__law_ring.nd) (vgs_nil)))))) (pCons_len (pCons_len (pCons_len (pCons_len (pCons_len pNil_len)))))) (vss_one (vs_if (vb_cmp (ov_eq (hr.mono (Nat.zero_le _))) (ve_var 9) (ve_var 7) (by rfl)) (vss_cons (vs_set (i := 14) sc__law_ring.nd (ve_bin ov_add (ve_var 6) (ve_var 11))) (vss_one (vs_app (i := 8) (ve_tup (vds_cons (ve_bin ov_add (ve_bin ov_mul2 (ve_bin ov_sub (ve_var 14) (ve_bin ov_mul2 (ve_bin ov_fdiv (ve_var 14) (ve_var 1)) (ve_var 1))) (ve_var 2)) (ve_var 10)) (vds_cons (ve_var 12) (vds_cons (ve_var 13) (vds_nil)))))))) (vss_nil)))) (vss_one (vs_app (i := 5) (ve_tup (vds_cons (ve_callTy cv_tuple (by rfl) bt.tuple bo_tuple (vds_cons (ve_callB (cv_sorted (hr.mono (Nat.zero_le _))) (by rfl) bt.sorted bo_sorted (vds_cons (ve_var 8) (vds_nil))) (vds_nil))) (vds_cons (ve_ixv (i := 4) (ve_var 7)) (vds_nil))))))))))) (vss_one (vs_ret (ve_tup (vds_cons (ve_bin ov_mul2 (ve_var 1) (ve_var 2)) (vds_cons (ve_callTy cv_tuple (by rfl) bt.tuple bo_tuple (vds_cons (ve_var 5) (vds_nil))) (vds_nil))))))))

/-! ### _law_is_bounds -/
abbrev S__law_is_bounds : Stmt := topS 27
theorem sc__law_is_bounds : FnScope ["thing"] ["thing"] (defScope S__law_is_bounds) := ⟨rfl, rfl, rfl, by decide +kernel, rfl, by decide +kernel, by decide +kernel⟩
theorem w__law_is_bounds (bt : Blt mg) (F : Fun K "_law_is_bounds" "_law_is_bounds" S__law_is_bounds f fd) (b : Binds K fd ["thing"] []) (hm : mg "_law_is_bounds" = some (.ref f)) (c__law_integer : FnV P w K mg base "_law_integer" 1 m__law_integer) : FnV P w K mg base "_law_is_bounds" 2 m__law_is_bounds :=
  fnv_run (k := 1) F sc__law_is_bounds hm b fun n cdv A outer s H E hr =>
    vss_cons (vs_if ((vw_or (vb_not (vb_val (ve_isi (ve_var 0) (by rfl) bt.isinstance (by rfl) bt.tuple bo_tuple))) (vw_or (vb_cmp (ov_ne (hr.mono (Nat.zero_le _))) (ve_lenv (i := 0) (by rfl) bt.len) (ve_int) (by rfl)) (vw_or (vb_not (vb_val (ve_call (c__law_integer.mono (by decide)) hr body_takes (vds_cons (ve_ixv (i := 0) (ve_int)) (vds_nil))))) (vw_or1 (vb_not (vb_val (ve_call (c__law_integer.mono (by decide)) hr body_takes (vds_cons (ve_ixv (i := 0) (ve_int)) (vds_nil))))))))).vb) (vss_one (vs_ret (ve_bl))) (vss_nil)) (vss_one (vs_ret (ve_chain ov_le ov_le (ve_int) (ve_ixv (i := 0) (ve_int)) (ve_ixv (i := 0) (ve_int)))))

/-! ### _law_is_piece -/
abbrev S__law_is_piece : Stmt := topS 28
theorem sc__law_is_piece : FnScope ["thing", "kinds", "sides", "rights", "side", "right", "part"] ["thing"] (defScope S__law_is_piece) := ⟨rfl, rfl, rfl, by decide +kernel, rfl, by decide +kernel, by decide +kernel⟩
theorem w__law_is_piece (bt : Blt mg) (F : Fun K "_law_is_piece" "_law_is_piece" S__law_is_piece f fd) (b : Binds K fd ["thing"] []) (hm : mg "_law_is_piece" = some (.ref f)) (c__law_integer : FnV P w K mg base "_law_integer" 1 m__law_integer) (c__law_is_bounds : FnV P w K mg base "_law_is_bounds" 2 m__law_is_bounds) : FnV P w K mg base "_law_is_piece" 3 m__law_is_piece :=
  fnv_run (k := 2) F sc__law_is_piece hm b fun n cdv A outer s H E hr =>
    vss_cons (vs_if ((vw_or (vb_not (vb_val (ve_isi (ve_var 0) (by rfl) bt.isinstance (by rfl) bt.tuple bo_tuple))) (vw_or (vb_cmp (ov_ne (hr.mono (Nat.zero_le _))) (ve_lenv (i := 0) (by rfl) bt.len) (ve_int) (by rfl)) (vw_or (vb_not (vb_val (ve_call (c__law_integer.mono (by decide)) hr body_takes (vds_cons (ve_ixv (i := 0) (ve_int)) (vds_nil))))) (vw_or1 (vb_not (vb_chain ov_le ov_le (ve_int) (ve_ixv (i := 0) (ve_int)) (ve_int))))))).vb) (vss_one (vs_ret (ve_bl))) (vss_nil)) (vss_cons (vs_asg (vs := [1, 2, 3]) (ve_var 0) (vg_tup rfl (vgs_cons (vg_nm (i := 1) sc__law_is_piece.nd) (vgs_cons (vg_nm (i := 2) sc__law_is_piece.nd) (vgs_cons (vg_nm (i := 3) sc__law_is_piece.nd) (vgs_nil)))) (pCons_len (pCons_len (pCons_len pNil_len))))) (vss_cons (vs_if ((vw_or (vb_not (vb_val (ve_isi (ve_var 2) (by rfl) bt.isinstance (by rfl) bt.tuple bo_tuple))) (vw_or (vb_not (vb_val (ve_isi (ve_var 3) (by rfl) bt.isinstance (by rfl) bt.tuple bo_tuple))) (vw_or1 (vb_cmp (ov_ne (hr.mono (Nat.zero_le _))) (ve_lenv (i := 3) (by rfl) bt.len) (ve_var 1) (by rfl))))).vb) (vss_one (vs_ret (ve_bl))) (vss_nil)) (vss_cons (vs_if (vb_cmp (ov_ne (hr.mono (Nat.zero_le _))) (ve_lc [("right", 5)] rfl sc__law_is_piece.nd (blkOk_by (by rfl)) (vi_seq (ve_var 3)) (fun s H C cl fp => vg_nm (i := 5) sc__law_is_piece.nd) (fun s H C cl fp => vts_one (vb_not (vb_val (ve_call (c__law_is_bounds.mono (by decide)) hr tk0 (vds_cons (ve_var 5) (vds_nil)))))) (fun s H C cl fp => ve_var 5)) (ve_lst (vds_nil)) (by rfl)) (vss_one (vs_ret (ve_bl))) (vss_nil)) (vss_cons (vs_for (vs := [4]) rfl (passes_of rfl) (vi_seq (ve_var 2)) (vg_nm (i := 4) sc__law_is_piece.nd) (vss_cons (vs_if ((vw_or (vb_not (vb_val (ve_isi (ve_var 4) (by rfl) bt.isinstance (by rfl) bt.tuple bo_tuple))) (vw_or (vb_cmp (ov_ne (hr.mono (Nat.zero_le _))) (ve_lenv (i := 4) (by rfl) bt.len) (ve_int) (by rfl)) (vw_or1 (vb_cmp (ov_ne (hr.mono (Nat.zero_le _))) (ve_lc [("part", 6)] rfl sc__law_is_piece.nd (blkOk_by (by rfl)) (vi_seq (ve_var 4)) (fun s H C cl fp => vg_nm (i := 6) sc__law_is_piece.nd) (fun s H C cl fp => vts_one (vb_not (vb_val (ve_call (c__law_integer.mono (by decide)) hr tk0 (vds_cons (ve_var 6) (vds_nil)))))) (fun s H C cl fp => ve_var 6)) (ve_lst (vds_nil)) (by rfl))))).vb) (vss_one (vs_ret (ve_bl))) (vss_nil)) (vss_one (vs_if ((vw_or (vb_not (vb_chain ov_le ov_lt (ve_int) (ve_ixv (i := 4) (ve_int)) (ve_var 1))) (vw_or (vb_not (vb_chain ov_le ov_lt (ve_int) (ve_ixv (i := 4) (ve_int)) (ve_var 1))) (vw_or (vb_not (vb_chain ov_le ov_le (ve_un uv_neg (ve_int)) (ve_ixv (i := 4) (ve_int)) (ve_int))) (vw_or1 (vb_not (vb_val (ve_call (c__law_is_bounds.mono (by decide)) hr body_takes (vds_cons (ve_slv (i := 4) (vo_some (ve_int)) (vo_none)) (vds_nil))))))))).vb) (vss_one (vs_ret (ve_bl))) (vss_nil))))) (vss_one (vs_ret (ve_cmp (ov_eq (hr.mono (Nat.zero_le _))) (ve_callTy cv_list (by rfl) bt.list bo_list (vds_cons (ve_var 2) (vds_nil))) (ve_callB (cv_sorted (hr.mono (Nat.zero_le _))) (by rfl) bt.sorted bo_sorted (vds_cons (ve_var 2) (vds_nil))) (by rfl))))))))

/-! ### _law_bent -/
abbrev S__law_bent : Stmt := topS 29
theorem sc__law_bent : FnScope ["bag", "thing", "deep", "at", "ways"] ["bag", "thing", "deep"] (defScope S__law_bent) := ⟨rfl, rfl, rfl, by decide +kernel, rfl, by decide +kernel, by decide +kernel⟩
theorem w__law_bent (bt : Blt mg) (F : Fun K "_law_bent" "_law_bent" S__law_bent f fd) (b : Binds K fd ["bag", "thing", "deep"] []) (hm : mg "_law_bent" = some (.ref f)) (c__law_take : FnB P w K mg base "_law_take" 1 m__law_take) (c__law_integer : FnV P w K mg base "_law_integer" 1 m__law_integer) (c__law_one : FnB P w K mg base "_law_one" 2 m__law_one) : ∀ dep : Nat, FnB P w K mg base "_law_bent" (3 + dep) (r__law_bent_v2 dep)
  | 0 => fnb_zero F hm b
  | dep + 1 => fnb_run (k := 3 + dep) F sc__law_bent hm b fun n cdv A outer s H E hr =>
    have c__law_bent := w__law_bent bt F b hm c__law_take c__law_integer c__law_one dep
    vss_cons (vs_if ((vw_or (vb_cmp (ov_eq (hr.mono (Nat.zero_le _))) (ve_var 2) (ve_int) (by rfl)) (vw_or (vb_not (vb_val (ve_isi (ve_var 1) (by rfl) bt.isinstance (by rfl) bt.tuple bo_tuple))) (vw_or (vb_cmp (ov_eq (hr.mono (Nat.zero_le _))) (ve_var 1) (ve_tup (vds_nil)) (by rfl)) (vw_or1 (vb_cmp (ov_eq (hr.mono (Nat.zero_le _))) (ve_callBag (i := 0) (c__law_take.mono (by omega)) hr body_takes (vds_cons (ve_int) (vds_nil))) (ve_int) (by rfl)))))).vb) (vss_cons (vs_if (vb_val (ve_call (c__law_integer.mono (by omega)) hr body_takes (vds_cons (ve_var 1) (vds_nil)))) (vss_one (vs_ret (ve_callBag (i := 0) (c__law_one.mono (by omega)) hr body_takes (vds_cons (ve_lst (vds_cons (ve_bin ov_add (ve_var 1) (ve_int)) (vds_cons (ve_bin ov_sub (ve_var 1) (ve_int)) (vds_cons (ve_un uv_neg (ve_var 1)) (vds_cons (ve_cmp (ov_eq (hr.mono (Nat.zero_le _))) (ve_var 1) (ve_int) (by rfl)) (vds_cons (ve_callTy cv_str (by rfl) bt.str bo_str (vds_cons (ve_var 1) (vds_nil))) (vds_cons (ve_non) (vds_cons (ve_tup (vds_cons (ve_var 1) (vds_nil))) (vds_cons (ve_int) (vds_cons (ve_bin ov_pow (ve_int) (ve_int)) (vds_nil))))))))))) (vds_nil))))) (vss_nil)) (vss_cons (vs_if (vb_val (ve_isi (ve_var 1) (by rfl) bt.isinstance (by rfl) bt.tuple bo_tuple)) (vss_cons (vs_set (i := 3) sc__law_bent.nd (ve_callBag (i := 0) (c__law_take.mono (by omega)) hr body_takes (vds_cons (ve_bin ov_add (ve_lenv (i := 1) (by rfl) bt.len) (ve_int)) (vds_nil)))) (vss_cons (vs_set (i := 4) sc__law_bent.nd (ve_lst (vds_cons (ve_bin ov_add (ve_slv (i := 1) (vo_none) (vo_some (ve_var 3))) (ve_slv (i := 1) (vo_some (ve_bin ov_add (ve_var 3) (ve_int))) (vo_none))) (vds_cons (ve_bin ov_add (ve_var 1) (ve_slv (i := 1) (vo_none) (vo_some (ve_int)))) (vds_cons (ve_rev (ve_var 1)) (vds_cons (ve_callTy cv_list (by rfl) bt.list bo_list (vds_cons (ve_var 1) (vds_nil))) (vds_cons (ve_bin ov_add (ve_bin ov_add (ve_slv (i := 1) (vo_none) (vo_some (ve_var 3))) (ve_tup (vds_cons (ve_int) (vds_nil)))) (ve_slv (i := 1) (vo_some (ve_var 3)) (vo_none))) (vds_nil)))))))) (vss_one (vs_ret (ve_callBag (i := 0) (c__law_one.mono (by omega)) hr body_takes (vds_cons (ve_bin ov_add (ve_var 4) (ve_lst (vds_cons (ve_bin ov_add (ve_bin ov_add (ve_bin ov_add (ve_slv (i := 1) (vo_none) (vo_some (ve_var 3))) (ve_slv (i := 1) (vo_some (ve_bin ov_add (ve_var 3) (ve_int))) (vo_some (ve_bin ov_add (ve_var 3) (ve_int))))) (ve_slv (i := 1) (vo_some (ve_var 3)) (vo_some (ve_bin ov_add (ve_var 3) (ve_int))))) (ve_slv (i := 1) (vo_some (ve_bin ov_add (ve_var 3) (ve_int))) (vo_none))) (vds_nil)))) (vds_nil))))))) (vss_nil)) (vss_one (vs_ret (ve_callBag (i := 0) (c__law_one.mono (by omega)) hr body_takes (vds_cons (ve_lst (vds_cons (ve_non) (vds_cons (ve_bl) (vds_cons (ve_int) (vds_cons (ve_str) (vds_cons (ve_tup (vds_nil)) (vds_nil))))))) (vds_nil))))))) (vss_nil)) (vss_cons (vs_set (i := 3) sc__law_bent.nd (ve_callBag (i := 0) (c__law_take.mono (by omega)) hr body_takes (vds_cons (ve_lenv (i := 1) (by rfl) bt.len) (vds_nil)))) (vss_one (vs_ret (ve_bin ov_add (ve_bin ov_add (ve_slv (i := 1) (vo_none) (vo_some (ve_var 3))) (ve_tup (vds_cons (ve_callBag (i := 0) c__law_bent hr body_takes (vds_cons (ve_ixv (i := 1) (ve_var 3)) (vds_cons (ve_bin ov_sub (ve_var 2) (ve_int)) (vds_nil)))) (vds_nil)))) (ve_slv (i := 1) (vo_some (ve_bin ov_add (ve_var 3) (ve_int))) (vo_none))))))

/-! ### _law_odd_pieces -/
abbrev S__law_odd_pieces : Stmt := topS 30
theorem sc__law_odd_pieces : FnScope ["bag", "none", "one", "found"] ["bag"] (defScope S__law_odd_pieces) := ⟨rfl, rfl, rfl, by decide +kernel, rfl, by decide +kernel, by decide +kernel⟩
theorem w__law_odd_pieces (bt : Blt mg) (F : Fun K "_law_odd_pieces" "_law_odd_pieces" S__law_odd_pieces f fd) (b : Binds K fd ["bag"] []) (hm : mg "_law_odd_pieces" = some (.ref f)) (x_Nothing : XcG K mg "Nothing") : FnB P w K mg base "_law_odd_pieces" 1 m__law_odd_pieces :=
  fnb_run (k := 0) F sc__law_odd_pieces hm b fun n cdv A outer s H E hr =>
    vss_cons (vs_parN (is := [1, 2]) rfl (vns_cons (i := 1) sc__law_odd_pieces.nd (vns_cons (i := 2) sc__law_odd_pieces.nd (vns_nil))) (vls_cons (ve_tup (vds_cons (ve_int) (vds_cons (ve_int) (vds_nil)))) (vls_cons (ve_tup (vds_cons (ve_int) (vds_cons (ve_int) (vds_cons (ve_int) (vds_cons (ve_int) (vds_cons (ve_int) (vds_nil))))))) (vls_nil)))) (vss_cons (vs_set (i := 3) sc__law_odd_pieces.nd (ve_lst (vds_cons (ve_non) (vds_cons (ve_bl) (vds_cons (ve_int) (vds_cons (ve_str) (vds_cons (ve_tup (vds_nil)) (vds_cons (ve_lst (vds_nil)) (vds_cons (ve_dic0) (vds_cons (ve_tup (vds_cons (ve_int) (vds_cons (ve_tup (vds_nil)) (vds_cons (ve_tup (vds_nil)) (vds_nil))))) (vds_cons (ve_tup (vds_cons (ve_int) (vds_cons (ve_tup (vds_nil)) (vds_cons (ve_tup (vds_cons (ve_var 1) (vds_nil))) (vds_nil))))) (vds_cons (ve_tup (vds_cons (ve_int) (vds_cons (ve_tup (vds_nil)) (vds_cons (ve_tup (vds_nil)) (vds_nil))))) (vds_cons (ve_tup (vds_cons (ve_int) (vds_cons (ve_tup (vds_nil)) (vds_cons (ve_bin ov_mul2 (ve_tup (vds_cons (ve_var 1) (vds_nil))) (ve_int)) (vds_nil))))) (vds_cons (ve_tup (vds_cons (ve_bl) (vds_cons (ve_tup (vds_nil)) (vds_cons (ve_tup (vds_cons (ve_var 1) (vds_nil))) (vds_nil))))) (vds_nil))))))))))))))) (vss_cons (vs_set (i := 3) sc__law_odd_pieces.nd (ve_bin ov_add (ve_var 3) (ve_lst (vds_cons (ve_tup (vds_cons (ve_int) (vds_cons (ve_lst (vds_cons (ve_var 2) (vds_nil))) (vds_cons (ve_tup (vds_cons (ve_var 1) (vds_nil))) (vds_nil))))) (vds_cons (ve_tup (vds_cons (ve_int) (vds_cons (ve_tup (vds_cons (ve_var 2) (vds_nil))) (vds_cons (ve_lst (vds_cons (ve_var 1) (vds_nil))) (vds_nil))))) (vds_cons (ve_tup (vds_cons (ve_int) (vds_cons (ve_tup (vds_cons (ve_var 2) (vds_cons (ve_var 2) (vds_nil)))) (vds_cons (ve_tup (vds_cons (ve_var 1) (vds_nil))) (vds_nil))))) (vds_cons (ve_tup (vds_cons (ve_int) (vds_cons (ve_tup (vds_cons (ve_tup (vds_cons (ve_int) (vds_cons (ve_int) (vds_cons (ve_int) (vds_cons (ve_int) (vds_cons (ve_int) (vds_nil))))))) (vds_nil))) (vds_cons (ve_tup (vds_cons (ve_var 1) (vds_nil))) (vds_nil))))) (vds_nil)))))))) (vss_cons (vs_set (i := 3) sc__law_odd_pieces.nd (ve_bin ov_add (ve_var 3) (ve_lst (vds_cons (ve_tup (vds_cons (ve_int) (vds_cons (ve_tup (vds_cons (ve_tup (vds_cons (ve_int) (vds_cons (ve_int) (vds_cons (ve_un uv_neg (ve_int)) (vds_cons (ve_int) (vds_cons (ve_int) (vds_nil))))))) (vds_cons (ve_var 2) (vds_nil)))) (vds_cons (ve_tup (vds_cons (ve_var 1) (vds_nil))) (vds_nil))))) (vds_cons (ve_tup (vds_cons (ve_int) (vds_cons (ve_tup (vds_cons (ve_var 2) (vds_cons (ve_tup (vds_cons (ve_int) (vds_cons (ve_int) (vds_cons (ve_un uv_neg (ve_int)) (vds_cons (ve_int) (vds_cons (ve_int) (vds_nil))))))) (vds_nil)))) (vds_cons (ve_tup (vds_cons (ve_var 1) (vds_nil))) (vds_nil))))) (vds_cons (ve_tup (vds_cons (ve_int) (vds_cons (ve_tup (vds_cons (ve_tup (vds_cons (ve_int) (vds_cons (ve_int) (vds_cons (ve_int) (vds_cons (ve_int) (vds_cons (ve_int) (vds_nil))))))) (vds_nil))) (vds_cons (ve_tup (vds_cons (ve_var 1) (vds_nil))) (vds_nil))))) (vds_nil))))))) (vss_cons (vs_set (i := 3) sc__law_odd_pieces.nd (ve_bin ov_add (ve_var 3) (ve_lst (vds_cons (ve_dic1 (k := .inr ⟨#[97]⟩) pe_str pe_int fun _ => .int 1) (vds_cons (ve_tup (vds_cons (ve_int) (vds_cons (ve_dicN (k := .inl 0) (i := 2) pe_int) (vds_cons (ve_tup (vds_cons (ve_var 1) (vds_nil))) (vds_nil))))) (vds_cons (ve_tup (vds_cons (ve_int) (vds_cons (ve_tup (vds_cons (ve_var 2) (vds_nil))) (vds_cons (ve_dicN (k := .inl 0) (i := 1) pe_int) (vds_nil))))) (vds_cons (ve_tup (vds_cons (ve_int) (vds_cons (ve_tup (vds_cons (ve_dic0) (vds_nil))) (vds_cons (ve_tup (vds_cons (ve_var 1) (vds_nil))) (vds_nil))))) (vds_cons (ve_excG x_Nothing (by rfl)) (vds_cons (ve_tup (vds_cons (ve_int) (vds_cons (ve_tup (vds_cons (ve_excG x_Nothing (by rfl)) (vds_nil))) (vds_cons (ve_tup (vds_cons (ve_var 1) (vds_nil))) (vds_nil))))) (vds_nil)))))))))) (vss_cons (vs_set (i := 3) sc__law_odd_pieces.nd (ve_bin ov_add (ve_var 3) (ve_lst (vds_cons (ve_tup (vds_cons (ve_excG x_Nothing (by rfl)) (vds_cons (ve_tup (vds_cons (ve_var 2) (vds_nil))) (vds_cons (ve_tup (vds_cons (ve_var 1) (vds_nil))) (vds_nil))))) (vds_cons (ve_tup (vds_cons (ve_int) (vds_cons (ve_tup (vds_cons (ve_tup (vds_cons (ve_int) (vds_cons (ve_int) (vds_cons (ve_excG x_Nothing (by rfl)) (vds_cons (ve_int) (vds_cons (ve_int) (vds_nil))))))) (vds_nil))) (vds_cons (ve_tup (vds_cons (ve_var 1) (vds_nil))) (vds_nil))))) (vds_cons (ve_tup (vds_cons (ve_int) (vds_cons (ve_tup (vds_cons (ve_var 2) (vds_nil))) (vds_cons (ve_tup (vds_cons (ve_excG x_Nothing (by rfl)) (vds_nil))) (vds_nil))))) (vds_nil))))))) (vss_one (vs_ret (ve_bin ov_add (ve_var 3) (ve_lst (vds_cons (ve_tup (vds_cons (ve_int) (vds_cons (ve_tup (vds_cons (ve_tup (vds_cons (ve_int) (vds_cons (ve_int) (vds_cons (ve_int) (vds_cons (ve_int) (vds_cons (ve_int) (vds_nil))))))) (vds_nil))) (vds_cons (ve_tup (vds_cons (ve_var 1) (vds_nil))) (vds_nil))))) (vds_cons (ve_tup (vds_cons (ve_int) (vds_cons (ve_tup (vds_cons (ve_bin ov_add (ve_var 2) (ve_tup (vds_cons (ve_int) (vds_nil)))) (vds_nil))) (vds_cons (ve_tup (vds_cons (ve_var 1) (vds_nil))) (vds_nil))))) (vds_cons (ve_tup (vds_cons (ve_int) (vds_cons (ve_tup (vds_cons (ve_var 2) (vds_nil))) (vds_cons (ve_tup (vds_cons (ve_var 1) (vds_nil))) (vds_nil))))) (vds_cons (ve_tup (vds_cons (ve_int) (vds_cons (ve_tup (vds_cons (ve_var 2) (vds_nil))) (vds_cons (ve_tup (vds_cons (ve_tup (vds_cons (ve_int) (vds_cons (ve_int) (vds_nil)))) (vds_nil))) (vds_nil))))) (vds_nil))))))))))))))

def b1_law (n : Nat) : MS := sIf (bAnd (vB (vOp (dCmp fun i j => decide (i ≤ j)) (vOp dMul2 (vVar 5) (vIxv 3 (vC (.int 0)))) (vC (.int 12)))) (bNot (vB (vCallL m__law_alike (aCons (vCall m_ring_table (vCons (vVar 3) (vCons (vVar 5) (vNil)))) (aCons (vCall m__law_ring (vCons (vVar 3) (vCons (vVar 5) (vNil)))) (aNil))))))) (sRet (vC (.bool false))) (sNil)
def e1_law (n : Nat) : M Sl := vCallB 1 m__law_one (vCons (vLst (vCons (vC (.int 0)) (vCons (vC (.int 1)) (vCons (vTup (vCons (vC (.int 1)) (vCons (vC (.int 2)) (vNil)))) (vCons (vTup (vCons (vC (.int 0)) (vCons (vC (.int 1)) (vNil)))) (vCons (vC (.str ⟨#[97]⟩)) (vNil))))))) (vNil))
def e2_law (n : Nat) : M Sl := vCallB 1 m__law_bent_v2 (vCons (vVar 3) (vCons (vC (.int 4)) (vNil)))
def b2_law (n : Nat) : MS := sSeq (sSet 8 (vCb dReprX (vCons (vVar 7) (vNil)))) (sIf (bOr (bNot (vB (vCallL m__law_alike (aCons (vCall m_is_piece (vCons (vVar 7) (vNil))) (aCons (vCall m__law_is_piece (vCons (vVar 7) (vNil))) (aNil)))))) (vB (vOp dNe (vCb dReprX (vCons (vVar 7) (vNil))) (vVar 8)))) (sRet (vC (.bool false))) (sNil))
def s1_law (n : Nat) : MS := sFor (vItems (vTup (vCons (vC (.int 1)) (vCons (vC (.int 2)) (vCons (vC (.int 3)) (vCons (vCallB 1 m__law_one (vCons (vLst (vCons (vC (.int 4)) (vCons (vC (.int 5)) (vCons (vC (.int 6)) (vCons (vC (.int 7)) (vCons (vC (.int 12)) (vNil))))))) (vNil))) (vNil))))))) (pNm 5) (b1_law n)
def s2_law (n : Nat) : MS := sSet 6 (vCb dTuple (vCons (vLc (vRng1 (vCons (vIxv 3 (vC (.int 0))) (vNil))) (pNm 9) (bYes) (e1_law n) [9]) (vNil)))
def s3_law (n : Nat) : MS := sSet 5 (vCallB 1 m__law_one (vCons (vLst (vCons (vC (.int 1)) (vCons (vC (.int 2)) (vCons (vC (.int 5)) (vCons (vC (.int 4)) (vNil)))))) (vNil)))
def s4_law (n : Nat) : MS := sIf (bOr (bNot (vB (vCallL m__law_alike (aCons (vCall m_spread (vCons (vVar 6) (vCons (vVar 5) (vNil)))) (aCons (vOp dMul2 (vVar 6) (vVar 5)) (aNil)))))) (vB (vOp dNe (vCb dReprX (vCons (vVar 3) (vNil))) (vVar 4)))) (sRet (vC (.bool false))) (sNil)
def s5_law (n : Nat) : MS := sFor (vItems (vOp dAdd (vOp dAdd (vLst (vCons (vVar 3) (vNil))) (vLc (vRng1 (vCons (vC (.int 12)) (vNil))) (pNm 10) (bYes) (e2_law n) [10])) (vCallB 1 m__law_odd_pieces (vNil)))) (pNm 7) (b2_law n)
def b3_law (n : Nat) : MS := sSeq (sSet 3 (vCallB 1 m__law_any_piece (vCons (vC (.int 3)) (vNil)))) (sSeq (sSet 4 (vCb dReprX (vCons (vVar 3) (vNil)))) (sSeq (s1_law n) (sSeq (s2_law n) (sSeq (s3_law n) (sSeq (s4_law n) (s5_law n))))))
/-! ### law -/
abbrev S_law : Stmt := topS 31
theorem sc_law : FnScope ["script", "bag", "turn", "piece", "said", "many", "items", "thing", "kept", "kind", "k"] ["script"] (defScope S_law) := ⟨rfl, rfl, rfl, by decide +kernel, rfl, by decide +kernel, by decide +kernel⟩
def g_law (n : Nat) : MS := sSeq (sSet 1 (vCall m__law_bag (vCons (vVar 0) (vNil)))) (sSeq (sFor (vRng1 (vCons (vC (.int 5)) (vNil))) (pNm 2) (b3_law n)) (sRet (vC (.bool true))))
def m_law : List D → Option Out := runM 1 11 g_law (fun _ => 0)
theorem w_law (bt : Blt mg) (F : Fun K "law" "law" S_law f fd) (c__law_bag : FnV P w K mg base "_law_bag" 1 m__law_bag) (c__law_any_piece : FnB P w K mg base "_law_any_piece" 5 m__law_any_piece) (c__law_one : FnB P w K mg base "_law_one" 2 m__law_one) (c__law_odd_pieces : FnB P w K mg base "_law_odd_pieces" 1 m__law_odd_pieces) (c__law_alike : FnV P w K mg base "_law_alike" 1 m__law_alike) (c_spread : FnV P w K mg base "spread" 1 m_spread) (c__law_bent : FnB P w K mg base "_law_bent" 11 m__law_bent_v2) (c_ring_table : FnV P w K mg base "ring_table" 2 m_ring_table) (c__law_ring : FnV P w K mg base "_law_ring" 1 m__law_ring) (c_is_piece : FnV P w K mg base "is_piece" 4 m_is_piece) (c__law_is_piece : FnV P w K mg base "_law_is_piece" 3 m__law_is_piece) : FnG P w K mg base 12 f fd ["script"] (spV K mg m_law) :=
  fng_run (k := 11) F sc_law fun n cdv A outer s H E hr =>
    vss_cons (vs_set (i := 1) sc_law.nd (ve_call (c__law_bag.mono (by decide)) hr body_takes (vds_cons (ve_var 0) (vds_nil)))) (vss_cons (vs_for (vs := [2]) rfl (passes_of rfl) (wi_range1 (by rfl) bt.range (vds_cons (ve_int) (vds_nil))) (vg_nm (i := 2) sc_law.nd) (vss_cons (vs_set (i := 3) sc_law.nd (ve_callBag (i := 1) (c__law_any_piece.mono (by decide)) hr body_takes (vds_cons (ve_int) (vds_nil)))) (vss_cons (vs_set (i := 4) sc_law.nd (ve_callB (cv_reprX (hr.mono (Nat.zero_le _))) (by rfl) bt.repr bo_repr (vds_cons (ve_var 3) (vds_nil)))) (vss_cons (vs_for (vs := [5]) rfl (passes_of rfl) (vi_seq (ve_tup (vds_cons (ve_int) (vds_cons (ve_int) (vds_cons (ve_int) (vds_cons (ve_callBag (i := 1) (c__law_one.mono (by decide)) hr body_takes (vds_cons (ve_lst (vds_cons (ve_int) (vds_cons (ve_int) (vds_cons (ve_int) (vds_cons (ve_int) (vds_cons (ve_int) (vds_nil))))))) (vds_nil))) (vds_nil))))))) (vg_nm (i := 5) sc_law.nd) (vss_one (vs_if ((vw_and (vb_cmp ov_le (ve_bin ov_mul2 (ve_var 5) (ve_ixv (i := 3) (ve_int))) (ve_int) (by rfl)) (vw_and1 (vb_not (vb_val (ve_callL (c__law_alike.mono (by decide)) hr body_takes (vas_cons (ve_call (c_ring_table.mono (by decide)) hr body_takes (vds_cons (ve_var 3) (vds_cons (ve_var 5) (vds_nil)))) (vas_cons (ve_call (c__law_ring.mono (by decide)) hr body_takes (vds_cons (ve_var 3) (vds_cons (ve_var 5) (vds_nil)))) (vas_nil)))))))).vb) (vss_one (vs_ret (ve_bl))) (vss_nil)))) (vss_cons (vs_set (i := 6) sc_law.nd (ve_callTy cv_tuple (by rfl) bt.tuple bo_tuple (vds_cons (ve_lc [("kind", 9)] rfl sc_law.nd (blkOk_by (by rfl)) (wi_range1 (by rfl) bt.range (vds_cons (ve_ixv (i := 3) (ve_int)) (vds_nil))) (fun s H C cl fp => vg_nm (i := 9) sc_law.nd) (fun s H C cl fp => vts_nil) (fun s H C cl fp => ve_callBag (i := 1) (c__law_one.mono (by decide)) hr tk0 (vds_cons (ve_lst (vds_cons (ve_int) (vds_cons (ve_int) (vds_cons (ve_tup (vds_cons (ve_int) (vds_cons (ve_int) (vds_nil)))) (vds_cons (ve_tup (vds_cons (ve_int) (vds_cons (ve_int) (vds_nil)))) (vds_cons (ve_str) (vds_nil))))))) (vds_nil)))) (vds_nil)))) (vss_cons (vs_set (i := 5) sc_law.nd (ve_callBag (i := 1) (c__law_one.mono (by decide)) hr body_takes (vds_cons (ve_lst (vds_cons (ve_int) (vds_cons (ve_int) (vds_cons (ve_int) (vds_cons (ve_int) (vds_nil)))))) (vds_nil)))) (vss_cons (vs_if ((vw_or (vb_not (vb_val (ve_callL (c__law_alike.mono (by decide)) hr body_takes (vas_cons (ve_call (c_spread.mono (by decide)) hr body_takes (vds_cons (ve_var 6) (vds_cons (ve_var 5) (vds_nil)))) (vas_cons (ve_bin ov_mul2 (ve_var 6) (ve_var 5)) (vas_nil)))))) (vw_or1 (vb_cmp (ov_ne (hr.mono (Nat.zero_le _))) (ve_callB (cv_reprX (hr.mono (Nat.zero_le _))) (by rfl) bt.repr bo_repr (vds_cons (ve_var 3) (vds_nil))) (ve_var 4) (by rfl)))).vb) (vss_one (vs_ret (ve_bl))) (vss_nil)) (vss_one (vs_for (vs := [7]) rfl (passes_of rfl) (vi_seq (ve_bin ov_add (ve_bin ov_add (ve_lst (vds_cons (ve_var 3) (vds_nil))) (ve_lc [("k", 10)] rfl sc_law.nd (blkOk_by (by rfl)) (wi_range1 (by rfl) bt.range (vds_cons (ve_int) (vds_nil))) (fun s H C cl fp => vg_nm (i := 10) sc_law.nd) (fun s H C cl fp => vts_nil) (fun s H C cl fp => ve_callBag (i := 1) (c__law_bent.mono (by decide)) hr tk0 (vds_cons (ve_var 3) (vds_cons (ve_int) (vds_nil)))))) (ve_callBag (i := 1) (c__law_odd_pieces.mono (by decide)) hr body_takes (vds_nil)))) (vg_nm (i := 7) sc_law.nd) (vss_cons (vs_set (i := 8) sc_law.nd (ve_callB (cv_reprX (hr.mono (Nat.zero_le _))) (by rfl) bt.repr bo_repr (vds_cons (ve_var 7) (vds_nil)))) (vss_one (vs_if ((vw_or (vb_not (vb_val (ve_callL (c__law_alike.mono (by decide)) hr body_takes (vas_cons (ve_call (c_is_piece.mono (by decide)) hr body_takes (vds_cons (ve_var 7) (vds_nil))) (vas_cons (ve_call (c__law_is_piece.mono (by decide)) hr body_takes (vds_cons (ve_var 7) (vds_nil))) (vas_nil)))))) (vw_or1 (vb_cmp (ov_ne (hr.mono (Nat.zero_le _))) (ve_callB (cv_reprX (hr.mono (Nat.zero_le _))) (by rfl) bt.repr bo_repr (vds_cons (ve_var 7) (vds_nil))) (ve_var 8) (by rfl)))).vb) (vss_one (vs_ret (ve_bl))) (vss_nil))))))))))))) (vss_one (vs_ret (ve_bl))))

end
end G57

namespace Fr
open PySem Mv Sh

/-! ### the meaning of texts, unrolled -/
def sThen (r : R Fl) (k : MS) : R Fl := match r with
  | .ok .nx e => k e
  | r => r
@[simp] theorem then_nx (e : En) (k : MS) : sThen (.ok .nx e) k = k e := rfl
@[simp] theorem then_rt (r : Sl) (e : En) (k : MS) : sThen (.ok (.rt r) e) k = .ok (.rt r) e := rfl
@[simp] theorem then_bk (e : En) (k : MS) : sThen (.ok .bk e) k = .ok .bk e := rfl
@[simp] theorem then_ct (e : En) (k : MS) : sThen (.ok .ct e) k = .ok .ct e := rfl
@[simp] theorem then_exc (c fs) (e : En) (k : MS) : sThen (.exc c fs e) k = .exc c fs e := rfl
theorem abs_nat (a : Int) : (if a < 0 then -a else a) = (a.natAbs : Int) := by split <;> omega
section
variable (f g : M Sl) (h k : MS) (c c2 : M Bool) (gs : M (List D)) (ls : M (List Sl)) (s : Sl) (es : List Sl) (i : Nat) (o : D → D → Option Sl) (u : D → Option Sl) (cb : List D → Option Sl) (m : List D → Option Out)
@[simp] theorem e_seq : sSeq h k (s :: es) = sThen (h (s :: es)) k := rfl
@[simp] theorem e_set : sSet i f (s :: es) = (f (s :: es)).bind fun r e => .ok .nx (e.set i r) := rfl
@[simp] theorem e_ret : sRet f (s :: es) = (f (s :: es)).bind fun r e => .ok (.rt r) e := rfl
@[simp] theorem e_nil : sNil (s :: es) = .ok .nx (s :: es) := rfl
@[simp] theorem e_sif : sIf c h k (s :: es) = (c (s :: es)).bind fun b e => if b = true then h e else k e := rfl
@[simp] theorem e_var : vVar i (s :: es) = match (s :: es)[i]? with
  | some (.val d) => .ok (.val d) (s :: es)
  | some (.own false xs) => .ok (.val (.list xs)) ((s :: es).set i (.val (.list xs)))
  | _ => .bad := rfl
@[simp] theorem e_c (d : D) : vC d (s :: es) = .ok (.val d) (s :: es) := rfl
@[simp] theorem e_vd : vD f (s :: es) = (f (s :: es)).bind frzS := rfl
@[simp] theorem e_op : vOp o f g (s :: es) = (vD f (s :: es)).bind fun x e => (vD g e).bind fun y e2 => opt (o x y) e2 := rfl
@[simp] theorem e_un : vUn u f (s :: es) = (vD f (s :: es)).bind fun x e => opt (u x) e := rfl
@[simp] theorem e_cb : vCb cb gs (s :: es) = (gs (s :: es)).bind fun xs e => opt (cb xs) e := rfl
@[simp] theorem e_vb : vB f (s :: es) = (vD f (s :: es)).bind bOf := rfl
@[simp] theorem e_cons : vCons f gs (s :: es) = (vD f (s :: es)).bind fun d e => (gs e).bind fun ds e2 => .ok (d :: ds) e2 := rfl
@[simp] theorem e_vnil : vNil (s :: es) = .ok [] (s :: es) := rfl
@[simp] theorem e_tup : vTup gs (s :: es) = (gs (s :: es)).bind fun ds e => opt (if ds.length ≤ LIM then some (.val (.tuple ds)) else none) e := rfl
@[simp] theorem e_lst : vLst gs (s :: es) = (gs (s :: es)).bind fun ds e => opt (if ds.length ≤ LIM then some (.own false ds) else none) e := rfl
@[simp] theorem e_call : vCall m gs (s :: es) = (gs (s :: es)).bind fun ds e => callR (m ds) e := rfl
@[simp] theorem e_lcons : lCons f ls (s :: es) = (f (s :: es)).bind fun r e => (ls e).bind fun rs e2 => .ok (r :: rs) e2 := rfl
@[simp] theorem e_lnil : lNil (s :: es) = .ok [] (s :: es) := rfl
@[simp] theorem e_par (is : List Nat) : sPar is ls (s :: es) = (ls (s :: es)).bind fun rs e => match storeE is rs e with
  | some e2 => .ok .nx e2
  | none => .bad := rfl
@[simp] theorem e_ixv : vIxv i f (s :: es) = match (s :: es)[i]? with
  | some (.val d) => (vD f (s :: es)).bind fun k e => opt (dIx d k) e
  | some (.own _ _) => (vD f (s :: es)).bind fun k e => ownE i e fun _ xs => opt (dIx (.list xs) k) e
  | _ => .bad := rfl
@[simp] theorem e_retv : sRetV i (s :: es) = match (s :: es)[i]? with
  | some (.val d) => .ok (.rt (.val d)) (s :: es)
  | some (.own false xs) => .ok (.rt (.own false xs)) ((s :: es).set i .no)
  | _ => .bad := rfl
@[simp] theorem e_if : vIf c f g (s :: es) = (c (s :: es)).bind fun b e => if b = true then f e else g e := rfl
@[simp] theorem e_and : vAnd f g (s :: es) = (vB f (s :: es)).bind fun b e => if b = true then g e else .ok (.val (.bool false)) e := rfl
@[simp] theorem e_or : vOr f g (s :: es) = (vB f (s :: es)).bind fun b e => if b = true then .ok (.val (.bool true)) e else g e := rfl
@[simp] theorem e_not : vNot f (s :: es) = (vB f (s :: es)).bind fun b e => .ok (.val (.bool (!b))) e := rfl
@[simp] theorem e_band : bAnd c c2 (s :: es) = (c (s :: es)).bind fun b e => if b = true then c2 e else .ok false e := rfl
@[simp] theorem e_bor : bOr c c2 (s :: es) = (c (s :: es)).bind fun b e => if b = true then .ok true e else c2 e := rfl
@[simp] theorem e_bnot : bNot c (s :: es) = (c (s :: es)).bind fun b e => .ok (!b) e := rfl
@[simp] theorem e_store1 (is : List Nat) (r : Sl) (rs : List Sl) : storeE (i :: is) (r :: rs) (s :: es) = storeE is rs ((s :: es).set i r) := rfl
@[simp] theorem e_store0 : storeE [] [] (s :: es) = some (s :: es) := rfl
@[simp] theorem e_outrt (r : Sl) : outOf (.ok (.rt r) (s :: es)) = some (.ret r) := rfl
@[simp] theorem e_outnx : outOf (.ok .nx (s :: es)) = some (.ret (.val .none)) := rfl
@[simp] theorem e_abs (z : Int) : dAbs [.int z] = some (.val (.int z.natAbs)) := by rw [← abs_nat]; rfl
@[simp] theorem e_int (z : Int) : dInt [.int z] = some (.val (.int z)) := rfl
@[simp] theorem e_intb (b : Bool) : dInt [.bool b] = some (.val (.int (if b then 1 else 0))) := rfl
end
@[simp] theorem atI0 {α : Type} (a : α) (l : List α) : L2.atI (a :: l) 0 = some a := by
  unfold L2.atI L2.ixN
  rw [if_pos (Int.le_refl _), if_pos (by simp)]
  rfl
@[simp] theorem atI1 {α : Type} (a b : α) (l : List α) : L2.atI (a :: b :: l) 1 = some b := by
  unfold L2.atI L2.ixN
  rw [if_pos (by decide), if_pos (by simp; omega)]
  rfl

/-! ### gcd -/
/-! ### fractions -/
def fr (q : Rat) : D := .tuple [.int q.num, .int q.den]
@[simp] theorem fr0 (q : Rat) : dIx (fr q) (.int 0) = some (.val (.int q.num)) := rfl
@[simp] theorem fr1 (q : Rat) : dIx (fr q) (.int 1) = some (.val (.int q.den)) := rfl
theorem sgn_pos {b : Int} (h : 0 < b) : b.sign = 1 := Int.sign_eq_one_of_pos h
theorem log2_lt {n k : Nat} (hk : 0 < k) (h : n < 2 ^ k) : n.log2 < k := by
  by_cases h0 : n = 0
  · subst h0; simpa using hk
  · exact
                                                                                                                  (Nat.log2_lt h0).mpr h
theorem lim_is : LIM = 1000000 := rfl
/-! ### small fractions; what the texts about them compute -/
def Bq (q : Rat) : Prop := q.num.natAbs < 2 ^ 4000 ∧ q.den < 2 ^ 4000
theorem mul_lt {a b n m : Nat} (h1 : a < 2 ^ n) (h2 : b < 2 ^ m) : a * b < 2 ^ (n + m) := by
  rw [Nat.pow_add]
  exact Nat.mul_lt_mul'' h1 h2
theorem mulOk_of {i j : Int} (h1 : i.natAbs < 2 ^ 40000) (h2 : j.natAbs < 2 ^ 40000) : mulOk i j := by
  have e1 := log2_lt (k := 40000) (by decide) h1
  have e2 := log2_lt (k := 40000) (by decide) h2
  exact .inl (by omega)
theorem up {n k m : Nat} (h : n < 2 ^ k) (hk : k ≤ m) : n < 2 ^ m := Nat.lt_of_lt_of_le h (Nat.pow_le_pow_right (by decide) hk)
theorem mul_nn {a b : Rat} (ha : Bq a) (hb : Bq b) : mulOk a.num b.num := mulOk_of (up ha.1 (by decide)) (up hb.1 (by decide))
end Fr

namespace Fr
open PySem Mv Sh

theorem shaped_int (a : Int) : SeqAt.shaped (.int a) = true := by simp [SeqAt.shaped, PyData.canLay0, PyData.depth]
theorem shaped_bool (a : Bool) : SeqAt.shaped (.bool a) = true := by simp [SeqAt.shaped, PyData.canLay0, PyData.depth]
@[simp] theorem dEq_int (a b : Int) : dEq (.int a) (.int b) = some (.val (.bool (decide (a = b)))) := by
  rw [dEq]
  · rw [if_pos ⟨shaped_int a, shaped_int b⟩]
    simp only [PyData.eqv]
    rw [show (a == b) = decide (a = b) from rfl]
  · intro _ _ h; cases h
@[simp] theorem dNe_int (a b : Int) : dNe (.int a) (.int b) = some (.val (.bool (!decide (a = b)))) := by
  rw [dNe]
  · rw [if_pos ⟨shaped_int a, shaped_int b⟩]
    simp only [PyData.eqv]
    rw [show (a == b) = decide (a = b) from rfl]
  · intro _ _ h; cases h
@[simp] theorem dEq_str (a b : Str) : dEq (.str a) (.str b) = some (.val (.bool (decide (a = b)))) := rfl
@[simp] theorem dNe_str (a b : Str) : dNe (.str a) (.str b) = some (.val (.bool (!decide (a = b)))) := rfl
/-! ### sums -/
/-- q is a whole number of N-ths, of at most M of them -/
def Fx (N M : Nat) (q : Rat) : Prop := ∃ z : Int, z.natAbs ≤ M ∧ q = Rat.divInt z N
theorem Fx.num {N M : Nat} {q : Rat} (hN : 0 < N) (h : Fx N M q) : q.num.natAbs ≤ M ∧ q.den ≤ N := by
  obtain ⟨z, hz, rfl⟩ := h
  rw [Rat.num_divInt, Rat.den_divInt, if_neg (by omega), sgn_pos (by omega), Int.one_mul]
  refine ⟨?_, ?_⟩
  · rw [Int.natAbs_ediv_of_dvd (Int.gcd_dvd_right ..)]
    exact Nat.le_trans (Nat.div_le_self _ _) hz
  · exact Nat.le_trans (Nat.div_le_self _ _) (Nat.le_of_eq (Int.natAbs_natCast N))
theorem Fx.bq {N M : Nat} {q : Rat} (h : Fx N M q) (hN : 0 < N ∧ N < 2 ^ 4000) (hM : M < 2 ^ 4000) : Bq q :=
  let ⟨h1, h2⟩ := h.num hN.1
  ⟨Nat.lt_of_le_of_lt h1 hM, Nat.lt_of_le_of_lt h2 hN.2⟩
theorem Fx.mono {N M M' : Nat} {q : Rat} (h : Fx N M q) (le : M ≤ M') : Fx N M' q := let ⟨z, h1, h2⟩ := h; ⟨z, Nat.le_trans h1 le, h2⟩
theorem divInt_eq (z : Int) (N : Nat) : Rat.divInt z N = (z : Rat) / (N : Rat) := by rw [Rat.divInt_eq_div]; rfl
theorem Fx.add {N M M' : Nat} {q r : Rat} (h : Fx N M q) (h' : Fx N M' r) : Fx N (M + M') (q + r) := by
  obtain ⟨z, h1, rfl⟩ := h
  obtain ⟨y, h2, rfl⟩ := h'
  refine ⟨z + y, by omega, ?_⟩
  rw [divInt_eq, divInt_eq, divInt_eq, Rat.div_def, Rat.div_def, Rat.div_def, Rat.intCast_add]
  grind
theorem Fx.sub {N M M' : Nat} {q r : Rat} (h : Fx N M q) (h' : Fx N M' r) : Fx N (M + M') (q - r) := by
  obtain ⟨z, h1, rfl⟩ := h
  obtain ⟨y, h2, rfl⟩ := h'
  refine ⟨z - y, by omega, ?_⟩
  rw [divInt_eq, divInt_eq, divInt_eq, Rat.div_def, Rat.div_def, Rat.div_def, Rat.intCast_sub]
  grind
theorem Fx.mul {N N' M M' : Nat} {q r : Rat} (h : Fx N M q) (h' : Fx N' M' r) : Fx (N * N') (M * M') (q * r) := by
  obtain ⟨z, h1, rfl⟩ := h
  obtain ⟨y, h2, rfl⟩ := h'
  refine ⟨z * y, by rw [Int.natAbs_mul]; exact Nat.mul_le_mul h1 h2, ?_⟩
  rw [Rat.divInt_mul_divInt]
  simp
theorem Fx.zero {N M : Nat} : Fx N M 0 := ⟨0, by omega, by rw [divInt_eq]; grind⟩
/-- in finer parts -/
theorem Fx.fine {N M : Nat} (k : Nat) (hk : 0 < k) {q : Rat} (h : Fx N M q) : Fx (N * k) (M * k) q := by
  have hk' : (0 : Rat) < (k : Rat) := Rat.natCast_pos.mpr hk
  have : Fx k k 1 := ⟨k, by simp, by rw [divInt_eq, Rat.intCast_natCast]; grind⟩
  have h2 := h.mul this
  rwa [Rat.mul_one] at h2
def sumQ : List Rat → Rat
  | [] => 0
  | q :: qs => q + sumQ qs
theorem Fx.sum {N M : Nat} : ∀ {qs : List Rat}, (∀ q ∈ qs, Fx N M q) → Fx N (qs.length * M) (sumQ qs)
  | [], _ => Fx.zero
  | q :: qs, h => by
    have h1 := h q List.mem_cons_self
    have h2 := Fx.sum (qs := qs) fun r hr => h r (List.mem_cons_of_mem _ hr)
    rw [List.length_cons, Nat.succ_mul, Nat.add_comm]
    exact h1.add h2

theorem forL_nx {pat : D → En → Option En} {b : MS} {d : D} {ds : List D} {e e1 e2 : En} (h1 : pat d e = some e1) (h2 : b e1 = .ok .nx e2) : forL pat b (d :: ds) e = forL pat b ds e2 := by
  rw [forL, h1]
  show (match b e1 with | _ => _) = _
  rw [h2]
@[simp] theorem p_nm (i : Nat) (d : D) (en : En) : pNm i d en = some (en.set i (.val d)) := rfl
@[simp] theorem p_nil (en : En) : pNil [] en = some en := rfl
@[simp] theorem p_cons (g : D → En → Option En) (h : List D → En → Option En) (d : D) (ds : List D) (en : En) : pCons g h (d :: ds) en = (g d en).bind (h ds) := rfl
@[simp] theorem p_tup (h : List D → En → Option En) (ds : List D) (en : En) : pTup h (.tuple ds) en = h ds en := rfl
@[simp] theorem i_items (f : M Sl) (s : Sl) (es : List Sl) : vItems f (s :: es) = (vD f (s :: es)).bind itemsOf := rfl
@[simp] theorem e_for (it : M (List D)) (pat : D → En → Option En) (b : MS) (s : Sl) (es : List Sl) : sFor it pat b (s :: es) = (it (s :: es)).bind fun xs e => forL pat b xs e := rfl
end Fr

namespace Fr
open PySem Mv Sh

section
variable (f g : M Sl) (l h : M (Option Int)) (c : M Bool) (gs : M (List D)) (s : Sl) (es : List Sl) (i : Nat) (o o2 : D → D → Option Sl) (op : Int → Int → Int) (mb : List D → List D → Option (Out × List D))
@[simp] theorem e_sl : vSl f l h (s :: es) = (vD f (s :: es)).bind fun d e => (l e).bind fun lo e2 => (h e2).bind fun hi e3 => opt (dSl d lo hi) e3 := rfl
def optInt : D → En → R (Option Int)
  | .int i, e => .ok (some i) e
  | _, _ => .bad
@[simp] theorem optInt_int (i : Int) (e : En) : optInt (.int i) e = .ok (some i) e := rfl
@[simp] theorem e_osome : oSome f (s :: es) = (vD f (s :: es)).bind optInt := by
  unfold oSome
  cases vD f (s :: es) with
  | ok d e => cases d <;> rfl
  | exc c fs e => rfl
  | bad => rfl
@[simp] theorem e_onone : oNone (s :: es) = .ok none (s :: es) := rfl
@[simp] theorem e_augS (fk : M Sl) : sAugS i op fk f (s :: es) = ownAt i (s :: es) fun _ _ => (vD fk (s :: es)).bind fun k e => ownAt i e fun _ xs => match dIx (.list xs) k with
  | some (.val (.int x)) => (vD f e).bind fun d e2 => match d with
    | .int y => setAt i k (.int (op x y)) e2
    | _ => .bad
  | _ => .bad := rfl
@[simp] theorem e_store (fk : M Sl) : sStore i fk f (s :: es) = (vD f (s :: es)).bind fun d e => ownAt i e fun _ _ => (vD fk e).bind fun k e2 => setAt i k d e2 := rfl
@[simp] theorem e_app : sApp i f (s :: es) = ownAt i (s :: es) fun _ _ => (vD f (s :: es)).bind fun d e => ownAt i e fun b xs => if xs.length < LIM then .ok .nx (e.set i (.own b (xs ++ [d]))) else .bad := rfl
@[simp] theorem e_len : vLenv i (s :: es) = match (s :: es)[i]? with
  | some (.val d) => opt (dLen [d]) (s :: es)
  | some (.own _ xs) => .ok (.val (.int xs.length)) (s :: es)
  | _ => .bad := rfl
@[simp] theorem e_callB : vCallB i mb gs (s :: es) = ownE i (s :: es) fun _ _ => (gs (s :: es)).bind fun ds e => ownE i e fun b xs => callB i (mb xs ds) b e := rfl
@[simp] theorem e_aug : sAug i op f (s :: es) = match (s :: es)[i]? with
  | some (.val (.int x)) => (vD f (s :: es)).bind fun d e => match d with
    | .int y => .ok .nx (e.set i (.val (.int (op x y))))
    | _ => .bad
  | _ => .bad := rfl
@[simp] theorem e_rng1 : vRng1 gs (s :: es) = (gs (s :: es)).bind rngR := rfl
theorem rng_nat {n : Nat} (h : n < 1000000) (e : En) : rngR [.int (n : Int)] e = .ok (rngD 0 n) e := by
  show (if (n : Int).natAbs < 1000000000 then R.ok (rngD 0 (n : Int).toNat) e else .bad) = _
  rw [if_pos (by omega),
                                                                                                                Int.toNat_natCast]
@[simp] theorem e_enum : vEnum gs (s :: es) = (gs (s :: es)).bind fun ds e => match ds with
    | [d] => match seqOf d with
      | some es => .ok (enumD es) e
      | none => .bad
    | _ => .bad := rfl
@[simp] theorem e_zip : vZip gs (s :: es) = (gs (s :: es)).bind fun ds e => match ds with
    | [d, d2] => match seqOf d, seqOf d2 with
      | some es, some es2 => .ok (zipD es es2) e
      | _, _ => .bad
    | _ => .bad := rfl
@[simp] theorem e_asg (pat : D → En → Option En) : sAsg pat f (s :: es) = (vD f (s :: es)).bind fun d e => match pat d e with
  | some e2 => .ok .nx e2
  | none => .bad := rfl
@[simp] theorem e_star : vStar f gs (s :: es) = (vD f (s :: es)).bind fun d e => match seqOf d with
  | some xs => (gs e).bind fun ds e2 => .ok (xs ++ ds) e2
  | none => .bad := rfl
@[simp] theorem e_lc (it : M (List D)) (pat : D → En → Option En) (tt : M Bool) (el : M Sl) (vs : List Nat) : vLc it pat tt el vs (s :: es) = (it (s :: es)).bind fun xs e => if noOwn e vs = true ∧ xs.length ≤ LIM then
  (match lcL pat tt el vs xs (wipeE e vs) with
    | .ok ys e' => .ok (.own false ys) (backE e' e vs)
    | _ => .bad) else .bad := rfl
@[simp] theorem e_yes : bYes (s :: es) = .ok true (s :: es) := rfl
@[simp] theorem e_ownAt (k : Bool → List D → R Fl) : ownAt i (s :: es) k = match (s :: es)[i]? with
  | some (.own b xs) => k b xs
  | _ => .bad := rfl
@[simp] theorem e_ownE {α : Type} (k : Bool → List D → R α) : ownE i (s :: es) k = match (s :: es)[i]? with
  | some (.own b xs) => k b xs
  | _ => .bad := rfl
@[simp] theorem e_setAt (k : Int) (d : D) : setAt i (.int k) d (s :: es) = ownAt i (s :: es) fun b xs => match L2.ixN xs.length k with
  | some j => .ok .nx ((s :: es).set i (.own b (xs.set j d)))
  | none => .bad := rfl
@[simp] theorem ix40 : L2.ixN 4 0 = some 0 := rfl
@[simp] theorem ix41 : L2.ixN 4 1 = some 1 := rfl
@[simp] theorem ix42 : L2.ixN 4 2 = some 2 := rfl
@[simp] theorem e_outB (r : Sl) (ys : List D) : outB (.ok (.rt r) (.own true ys :: es)) = some (.ret r, ys) := rfl
@[simp high] theorem e_lst0 : vLst vNil (s :: es) = .ok (.own false []) (s :: es) := by
  show opt (if ([] : List D).length ≤ LIM then some (Sl.own false []) else none) (s :: es) = _
  rw [if_pos (show ([] : List D).length ≤ LIM from Nat.zero_le _)]
  rfl
@[simp] theorem seq_list (ds : List D) : seqOf (.list ds) = some ds := rfl
@[simp] theorem seq_tuple (ds : List D) : seqOf (.tuple ds) = some ds := rfl
end
@[simp] theorem len_list (xs : List D) : dLen [.list xs] = some (.val (.int xs.length)) := rfl
@[simp] theorem len_tuple (xs : List D) : dLen [.tuple xs] = some (.val (.int xs.length)) := rfl
@[simp] theorem callB_ret (i : Nat) (r : Sl) (ys : List D) (b : Bool) (e : En) : callB i (some (.ret r, ys)) b e = .ok r (e.set i (.own b ys)) := rfl
@[simp] theorem add_lists (xs ys : List D) : dAdd (.list xs) (.list ys) = if xs.length + ys.length ≤ LIM then some (.own false (xs ++ ys)) else none := rfl
@[simp] theorem add_tuples (xs ys : List D) : dAdd (.tuple xs) (.tuple ys) = if xs.length + ys.length ≤ LIM then some (.val (.tuple (xs ++ ys))) else none := rfl
@[simp] theorem atI2 {α : Type} (a b c : α) (l : List α) : L2.atI (a :: b :: c :: l) 2 = some c := by
  unfold L2.atI L2.ixN
  rw [if_pos (by decide), if_pos (by simp; omega)]
  rfl
@[simp] theorem atI3 {α : Type} (a b c d : α) (l : List α) : L2.atI (a :: b :: c :: d :: l) 3 = some d := by
  unfold L2.atI L2.ixN
  rw [if_pos (by decide), if_pos (by simp; omega)]
  rfl
theorem ix_nat {n j : Nat} (h : j < n) : L2.ixN n (j : Int) = some j := by
  unfold L2.ixN
  rw [if_pos (by omega),
                                                                                                                if_pos (by omega)]
  simp

/-! ### the bag -/
structure Bag (b0 b1 b2 : Int) (cs : List Int) : Prop where
  p0 : 0 ≤ b0
  p1 : 0 ≤ b1
  q1 : b1 < 2147483648
  p2 : 0 ≤ b2
  pc : ∀ c ∈ cs, 0 ≤ c
  len : cs.length ≤ 63
def bagD (b0 b1 b2 : Int) (cs : List Int) : List D := [.int b0, .int b1, .int b2, .list (cs.map PyData.int)]
def BagOk (xs : List D) : Prop := ∃ b0 b1 b2 cs, xs = bagD b0 b1 b2 cs ∧ Bag b0 b1 b2 cs
theorem cut_first {cs : List Int} (h : ∀ c ∈ cs, 0 ≤ c) (lo : Option Int) : ∃ c : Int, 0 ≤ c ∧ L2.atI (cutD (cs.map PyData.int) lo none ++ [PyData.int 0]) 0 = some (.int c) := by
  cases hc : cutD (cs.map PyData.int) lo none with
  | nil => exact ⟨0, by decide, rfl⟩
  | cons d ds =>
    have hm : d ∈ cs.map PyData.int := by
      have : d ∈ cutD (cs.map PyData.int) lo none := by rw [hc]; exact List.mem_cons_self
      exact List.mem_of_mem_drop (List.mem_of_mem_take this)
    obtain ⟨c, hc1, rfl⟩ := List.mem_map.mp hm
    exact ⟨c, h c hc1, by rw [List.cons_append]; exact atI0 _ _⟩
theorem cut_len (xs : List D) (lo hi : Option Int) : (cutD xs lo hi).length ≤ xs.length := by
  unfold cutD
  rw [List.length_take,
                                                                                                                List.length_drop]
  omega
theorem fmod_rng {a m : Int} (h : 0 < m) : 0 ≤ a.fmod m ∧ a.fmod m < m := ⟨Int.fmod_nonneg_of_pos a h, Int.fmod_lt_of_pos a h⟩
theorem fd_nonneg {a m : Int} (ha : 0 ≤ a) (h : 0 < m) : 0 ≤ a.fdiv m := by rw [Int.fdiv_eq_ediv_of_nonneg _ (Int.le_of_lt h)]; exact Int.ediv_nonneg ha (Int.le_of_lt h)
theorem many_log {many : Int} (h0 : 0 < many) (h1 : many < 2 ^ 64) : many.natAbs.log2 < 9000 := by
  have := log2_lt (n := many.natAbs) (k := 64) (by decide) (by omega)
  omega
theorem log7 : Nat.log2 7 < 9000 := by decide
theorem take_ok {xs : List D} (hb : BagOk xs) {many : Int} (h0 : 0 < many) (h1 : many < 2 ^ 64) : ∃ v ys, m__law_take xs [.int many] = some (.ret (.val (.int v)), ys) ∧ 0 ≤ v ∧ v < many ∧ BagOk ys := by
  obtain ⟨b0, b1, b2, cs, rfl, B⟩ := hb
  have hm0 : many ≠ 0 := by omega
  have hlog := many_log h0 h1
  by_cases hz : b0 = 0
  · subst hz
    obtain ⟨c, hc, hcut⟩ := cut_first B.pc (some b2)
    have hl : (cutD (cs.map PyData.int) (some b2) none).length + 1 ≤ 1000000 := by
      have := cut_len (cs.map PyData.int) (some b2) none
      have := B.len
      simp at *
      omega
    have m1 : mulOk b1 48271 := .inr (.inr ⟨by decide, by decide⟩)
    have m2 : mulOk 7919 (b2 + 1) := .inr (.inl ⟨by decide, by decide⟩)
    have hs1 := fmod_rng (a := b1 * 48271 + c.fmod 2147483647 + 7919 * (b2 + 1)) (m := 2147483647) (by decide)
    by_cases hbig : 1000000000000000000 ≤ c
    · have hcp : 0 < c := by omega
      refine ⟨c.fmod many, bagD (c.fdiv many) ((b1 * 48271 + c.fmod 2147483647 + 7919 * (b2 + 1)).fmod 2147483647) (b2 + 1) cs, ?_, (fmod_rng h0).1, (fmod_rng h0).2, _, _, _, _, rfl, ⟨fd_nonneg hc h0, hs1.1, by omega, by have := B.p2; omega, B.pc, B.len⟩⟩
      simp [m__law_take, g__law_take, runB, startE, bagD, lim_is, hl, hcut, dPow, hbig, m1, m2, dMod, hcp, hm0, hlog]
    · generalize hS : (b1 * 48271 + c.fmod 2147483647 + 7919 * (b2 + 1)).fmod 2147483647 = S at hs1
      have m3 : mulOk (S + 1) 39373 := .inr (.inr ⟨by decide, by decide⟩)
      have hb := fmod_rng (a := (S + 1) * 39373) (m := 1000000007) (by decide)
      generalize hB : ((S + 1) * 39373).fmod 1000000007 = T at hb
      have m4 : mulOk T T := .inr (.inl ⟨by omega, by omega⟩)
      have m5 : mulOk ((T * T).fmod 998244353) 30011 := .inr (.inr ⟨by decide, by decide⟩)
      refine ⟨((((T * T).fmod 998244353 * 30011).fmod 998244353).fdiv 7).fmod many, bagD 0 S (b2 + 1) cs, ?_, (fmod_rng h0).1, (fmod_rng h0).2, _, _, _, _, rfl, ⟨by decide, hs1.1, by omega, by have := B.p2; omega, B.pc, B.len⟩⟩
      simp [m__law_take, g__law_take, runB, startE, bagD, lim_is, hl, hcut, dPow, hbig, m1, m2, dMod, hm0, hlog, hS, m3, hB, m4, m5, log7]
  · have hp : 0 < b0 := by have := B.p0; omega
    refine ⟨b0.fmod many, bagD (b0.fdiv many) b1 b2 cs, ?_, (fmod_rng h0).1, (fmod_rng h0).2, _, _, _, _, rfl, ⟨fd_nonneg B.p0 h0, B.p1, B.q1, B.p2, B.pc, B.len⟩⟩
    simp [m__law_take, g__law_take, runB, startE, bagD, hz, hp, dMod, hm0, hlog]
theorem at_mem {ds : List D} {v : Int} (h0 : 0 ≤ v) (h1 : v < ds.length) : ∃ d, L2.atI ds v = some d ∧ d ∈ ds := by
  have hj : v.toNat < ds.length := by omega
  refine ⟨ds[v.toNat], ?_, List.getElem_mem hj⟩
  have e := ix_nat hj
  rw [show ((v.toNat : Nat) : Int) = v by omega] at e
  unfold L2.atI
  rw [e]
  exact List.getElem?_eq_getElem hj
theorem one_list {xs : List D} (hb : BagOk xs) {ds : List D} (h0 : ds ≠ []) (h1 : ds.length < 1000000) : ∃ v ys, m__law_one xs [.list ds] = some (.ret (.val v), ys) ∧ v ∈ ds ∧ BagOk ys := by
  have hl : 0 < ds.length := List.length_pos_iff.mpr h0
  obtain ⟨v, ys, h, h2, h3, h4⟩ := take_ok hb (many := ds.length) (by omega) (by omega)
  obtain ⟨d, h5, h6⟩ := at_mem h2 h3
  refine ⟨d, ys, ?_, h6, h4⟩
  simp [m__law_one, g__law_one, runB, startE, h, h5]
mutual
theorem eqv_self : ∀ d : D, d.canLay0 = true → PyData.eqv d d = true
  | .none, _ =>
                                                                                                                by simp [PyData.eqv]
  | .bool _, _ =>
                                                                                                                by simp [PyData.eqv]
  | .int _, _ =>
                                                                                                                by simp [PyData.eqv]
  | .str _, _ =>
                                                                                                                by simp [PyData.eqv]
  | .list xs, h => by simp only [PyData.eqv]; exact eqvs_self xs (by simpa only [PyData.canLay0] using h)
  | .tuple xs, h => by simp only [PyData.eqv]; exact eqvs_self xs (by simpa only [PyData.canLay0] using h)
  | .dict _, h => by simp [PyData.canLay0] at h
theorem eqvs_self : ∀ ds : List D, PyData.canLayAll0 ds = true → PyData.eqvAll ds ds = true
  | [], _ =>
                                                                                                                by simp [PyData.eqvAll]
  | d :: ds, h => by
    have h' : d.canLay0 = true ∧ PyData.canLayAll0 ds = true := by simpa [PyData.canLayAll0] using h
    simp only [PyData.eqvAll, eqv_self d h'.1, eqvs_self ds h'.2, Bool.and_self]
end
/-- what may be compared and told -/
def Tell (d : D) : Prop := SeqAt.shaped d = true ∧ repOk d
theorem shaped_lay {d : D} (h : SeqAt.shaped d = true) : d.canLay0 = true := SeqAt.canLay_of_shaped h
theorem eq_self {d : D} (h : SeqAt.shaped d = true) : dEq d d = some (.val (.bool true)) := by
  have e1 := eqv_self d (shaped_lay h)
  unfold dEq
  split
  · simp
  · rw [if_pos ⟨h, h⟩, e1]
theorem alike_ok {d : D} (h : Tell d) : m__law_alike [d, d] = some (.ret (.val (.bool true))) := by
  simp [m__law_alike, g__law_alike, runM, startE, eq_self h.1, dRepr, h.2]
end Fr

namespace Fr
open PySem Mv Sh

@[simp] theorem min_int (a b : Int) : dMin [.int a, .int b] = some (.val (.int (min a b))) := rfl
@[simp] theorem max_int (a b : Int) : dMax [.int a, .int b] = some (.val (.int (max a b))) := rfl
def prD (a b : Int) : D := .tuple [.int a, .int b]
theorem bounds_ok {xs : List D} (hb : BagOk xs) {most : Int} (h0 : 0 ≤ most) (h1 : most < 1000000) : ∃ a b ys, m__law_bounds xs [.int most] = some (.ret (.val (prD a b)), ys) ∧ 0 ≤ a ∧ a ≤ b ∧ b ≤ most ∧ BagOk ys := by
  obtain ⟨v, y1, e1, v0, v1, B1⟩ := take_ok hb (many := most + 1) (by omega) (by omega)
  obtain ⟨d, y2, e2, hd, B2⟩ := one_list B1 (ds := [.int 1, .int 2, .int 0, .int most, .int v]) (by simp) (by simp)
  obtain ⟨one, rfl, o0, o1⟩ : ∃ z : Int, d = .int z ∧ 0 ≤ z ∧ z < 1000002 := by
    simp only [List.mem_cons, List.not_mem_nil, or_false] at hd
    rcases hd with rfl | rfl | rfl | rfl | rfl
    · exact ⟨1, rfl, by omega, by omega⟩
    · exact ⟨2, rfl, by omega, by omega⟩
    · exact ⟨0, rfl, by omega, by omega⟩
    · exact ⟨most, rfl, by omega, by omega⟩
    · exact ⟨v, rfl, by omega, by omega⟩
  obtain ⟨u, y3, e3, u0, u1, B3⟩ := take_ok B2 (many := 4) (by omega) (by omega)
  obtain ⟨d, y4, e4, hd, B4⟩ := one_list B3 (ds := [.int one, .int (one + 1), .int one, .int most, .int (2 * one), .int (one + u)]) (by simp) (by simp)
  obtain ⟨other, rfl, p0⟩ : ∃ z : Int, d = .int z ∧ 0 ≤ z := by
    simp only [List.mem_cons, List.not_mem_nil, or_false] at hd
    rcases hd with rfl | rfl | rfl | rfl | rfl | rfl
    · exact ⟨_, rfl, by omega⟩
    · exact ⟨_, rfl, by omega⟩
    · exact ⟨_, rfl, by omega⟩
    · exact ⟨_, rfl, by omega⟩
    · exact ⟨_, rfl, by omega⟩
    · exact ⟨_, rfl, by omega⟩
  have m2 : mulOk 2 one := .inr (.inl ⟨by decide, by decide⟩)
  refine ⟨min (min one most) (min other most), max (min one most) (min other most), y4, ?_, by omega, by omega, by omega, B4⟩
  simp [m__law_bounds, g__law_bounds, runB, startE, lim_is, e1, e2, e3, e4, m2, prD]

/-! ### spans -/
def sp (p : Rat × Rat) : D := .tuple [fr p.1, fr p.2]
@[simp] theorem sp0 (p : Rat × Rat) : dIx (sp p) (.int 0) = some (.val (fr p.1)) := rfl
@[simp] theorem sp1 (p : Rat × Rat) : dIx (sp p) (.int 1) = some (.val (fr p.2)) := rfl
/-- a span of whole numbers of N-ths -/
structure Span (N M : Nat) (p : Rat × Rat) : Prop where
  lo : 0 ≤ p.1
  le : p.1 ≤ p.2
  f1 : Fx N M p.1
  f2 : Fx N M p.2
/-- a loop that runs to its end -/
theorem for_inv {pat : D → En → Option En} {b : MS} (I : List D → En → Prop) (stp : ∀ d ds e, I (d :: ds) e → ∃ e1 e2, pat d e = some e1 ∧ b e1 = .ok .nx e2 ∧ I ds e2) : ∀ (ds : List D) (e : En), I ds e → ∃ e', forL pat b ds e = .ok .nx e' ∧ I [] e'
  | [], e, h => ⟨e, rfl, h⟩
  | d :: ds, e, h => by
    obtain ⟨e1, e2, h1, h2, h3⟩ := stp d ds e h
    obtain ⟨e', h4, h5⟩ := for_inv I stp ds e2 h3
    exact ⟨e', by rw [forL_nx h1 h2]; exact h4, h5⟩
theorem rng_len (a : Int) (n : Nat) : (rngD a n).length = n := by simp [rngD]
def spB : MS := sSeq (sSet 5 (vCallB 0 m__law_one (vCons (vLst (vCons (vC (.int 1)) (vCons (vC (.int 1)) (vCons (vC (.int 2)) (vCons (vC (.int 3)) (vCons (vC (.int 6)) (vNil))))))) (vNil)))) (sSeq (sAsg (pTup (pCons (pNm 6) (pCons (pNm 7) (pNil)))) (vCallB 0 m__law_bounds (vCons (vVar 2) (vNil)))) (sApp 3 (vTup (vCons (vCall m__law_ratio (vCons (vVar 6) (vCons (vVar 5) (vNil)))) (vCons (vCall m__law_ratio (vCons (vVar 7) (vCons (vVar 5) (vNil)))) (vNil))))))
end Fr

namespace Fr
open PySem Mv Sh

@[simp] theorem lcL_nil (pat : D → En → Option En) (tt : M Bool) (el : M Sl) (vs : List Nat) (e : En) : lcL pat tt el vs [] e = .ok [] e := rfl
/-- a turn that gives an item; one that gives none -/
theorem lcL_yes {pat : D → En → Option En} {tt : M Bool} {el : M Sl} {vs : List Nat} {d y : D} {ds ys : List D} {e e1 e2 e3 e4 : En} (h1 : pat d e = some e1) (h2 : tt e1 = .ok true e2) (h3 : vD el e2 = .ok y e3) (h4 : lcL pat tt el vs ds (wipeE e3 vs) = .ok ys e4) :
    lcL pat tt el vs (d :: ds) e = .ok (y :: ys) e4 := by
  simp only [lcL, h1, h2, h3, noX_ok, R.bind_ok, if_true, h4]
theorem lcL_no {pat : D → En → Option En} {tt : M Bool} {el : M Sl} {vs : List Nat} {d : D} {ds ys : List D} {e e1 e2 e4 : En} (h1 : pat d e = some e1) (h2 : tt e1 = .ok false e2) (h4 : lcL pat tt el vs ds (wipeE e2 vs) = .ok ys e4) :
    lcL pat tt el vs (d :: ds) e = .ok ys e4 := by
  simp only [lcL, h1, h2, noX_ok, R.bind_ok, Bool.false_eq_true, if_false, h4]
/-- every turn gives an item, and nothing else changes -/
theorem lcL_map {α : Type} {pat : D → En → Option En} {el : M Sl} {vs : List Nat} {e : En} (a : α → D) (b : α → D) : ∀ (xs : List α), (∀ x ∈ xs, ∃ s es e3, pat (a x) e = some (s :: es) ∧ vD el (s :: es) = .ok (b x) e3 ∧ wipeE e3 vs = e) → lcL pat bYes el vs (xs.map a) e = .ok (xs.map b) e
  | [], _ => rfl
  | x :: xs, h => by
    obtain ⟨s, es, e3, h1, h2, h3⟩ := h x List.mem_cons_self
    have ih := lcL_map (pat := pat) (el := el) (vs := vs) (e := e) a b xs fun y hy => h y (List.mem_cons_of_mem _ hy)
    exact lcL_yes h1 rfl h2 (by rw [h3]; exact ih)
/-- only the items that pass -/
theorem lcL_filter {α : Type} {pat : D → En → Option En} {tt : M Bool} {el : M Sl} {vs : List Nat} {e : En} (a : α → D) (p : α → Bool) (b : α → D) : ∀ (xs : List α), (∀ x ∈ xs, ∃ s es e2 e3, pat (a x) e = some (s :: es) ∧ tt (s :: es) = .ok (p x) e2 ∧ (p x = true → vD el e2 = .ok (b x) e3 ∧ wipeE e3 vs = e) ∧ (p x = false → wipeE e2 vs = e)) →
    lcL pat tt el vs (xs.map a) e = .ok ((xs.filter p).map b) e
  | [], _ => rfl
  | x :: xs, h => by
    obtain ⟨s, es, e2, e3, h1, h2, h3, h4⟩ := h x List.mem_cons_self
    have ih := lcL_filter (pat := pat) (tt := tt) (el := el) (vs := vs) (e := e) a p b xs fun y hy => h y (List.mem_cons_of_mem _ hy)
    cases hp : p x with
    | true =>
      rw [hp] at h2
      obtain ⟨h5, h6⟩ := h3 hp
      rw [List.filter_cons_of_pos (by simpa using hp), List.map_cons, List.map_cons]
      exact lcL_yes h1 h2 h5 (by rw [h6]; exact ih)
    | false =>
      rw [hp] at h2
      rw [List.filter_cons_of_neg (by simp [hp]), List.map_cons]
      exact lcL_no h1 h2 (by rw [h4 hp]; exact ih)
/-- sizes of spans -/
structure Spans (N M : Nat) (ss : List (Rat × Rat)) : Prop where
  all : ∀ p ∈ ss, Span N M p
  len : ss.length ≤ 100
  n0 : 0 < N
  n1 : N < 2 ^ 200
  m1 : M < 2 ^ 200
theorem Spans.mono {N M N' M' : Nat} (h : N < 2 ^ 200) : N < 2 ^ 4000 := up h (by decide)
def tot (ss : List (Rat × Rat)) : Rat := sumQ (ss.map (·.2))
theorem Spans.fx2 {N M : Nat} {ss : List (Rat × Rat)} (S : Spans N M ss) : ∀ q ∈ ss.map (·.2), Fx N M q := fun q hq => by
  obtain ⟨p, hp, rfl⟩ :=
                                                                                                                List.mem_map.mp hq
  exact (S.all p hp).f2
theorem Spans.fxTot {N M : Nat} {ss : List (Rat × Rat)} (S : Spans N M ss) : Fx N (100 * M) (tot ss) := by
  have h := Fx.sum S.fx2
  rw [List.length_map] at h
  exact h.mono (Nat.mul_le_mul_right _ S.len)
theorem small300 {M : Nat} (h : M < 2 ^ 200) (k : Nat) (hk : k ≤ 1000) : k * M < 2 ^ 300 := by
  have : k * M ≤ 1000 * M := Nat.mul_le_mul_right _ hk
  have h2 : 1000 * M < 1000 * 2 ^ 200 := Nat.mul_lt_mul_of_pos_left h (by decide)
  have h3 : 1000 * 2 ^ 200 < 2 ^ 300 := by decide
  omega
theorem Spans.nn {N M : Nat} {ss : List (Rat × Rat)} (S : Spans N M ss) : 0 < N ∧ N < 2 ^ 4000 := ⟨S.n0, up S.n1 (by decide)⟩
/-- whatever is at most a thousand times as great is small enough -/
theorem Spans.bq {N M : Nat} {ss : List (Rat × Rat)} (S : Spans N M ss) {k : Nat} (hk : k ≤ 1000) {q : Rat} (h : Fx N (k * M) q) : Bq q := h.bq S.nn (up (small300 S.m1 k hk) (by decide))
theorem Spans.one {N M : Nat} {ss : List (Rat × Rat)} (S : Spans N M ss) {q : Rat} (h : Fx N M q) : Bq q := S.bq (k := 1) (by decide) (by rw [Nat.one_mul]; exact h)
/-! ### reach_of -/
def leftOf (ss : List (Rat × Rat)) (p : Rat × Rat) : Rat := p.1 - (tot ss - p.2)
theorem Spans.left {N M : Nat} {ss : List (Rat × Rat)} (S : Spans N M ss) {p : Rat × Rat} (hp : p ∈ ss) : Fx N (101 * M) (tot ss - p.2) ∧ Fx N (102 * M) (leftOf ss p) := by
  have h := S.all p hp
  have h1 : Fx N (101 * M) (tot ss - p.2) := (S.fxTot.sub h.f2).mono (by omega)
  exact ⟨h1, (h.f1.sub h1).mono (by omega)⟩
/-- the greatest of a list, from a first one on -/
def maxQ (q : Rat) : List Rat → Rat
  | [] => q
  | r :: rs => maxQ (if q < r then r else q) rs
def low (ss : List (Rat × Rat)) : Rat := maxQ 0 (ss.map (leftOf ss))
/-! ### the law's own reach -/
/-- numbered items -/
inductive Enu {α : Type} (a : α → D) : List D → List α → Prop
  | nil : Enu a [] []
  | cons {z : Int} {x : α} {ds : List D} {xs : List α} : Enu a ds xs → Enu a (.tuple [.int z, a x] :: ds) (x :: xs)
end Fr

namespace Fr
open PySem Mv Sh

/-! ### closing -/
structure Sz (N M : Nat) : Prop where
  n0 : 0 < N
  n1 : N < 2 ^ 200
  m1 : M < 2 ^ 220
theorem Sz.nn {N M : Nat} (S : Sz N M) : 0 < N ∧ N < 2 ^ 4000 := ⟨S.n0, up S.n1 (by decide)⟩
theorem Sz.sm {N M : Nat} (S : Sz N M) (k : Nat) (hk : k ≤ 1000) : k * M < 2 ^ 300 := up (mul_lt (a := k) (n := 10) (by omega) S.m1) (by decide)
theorem Sz.bq {N M : Nat} (S : Sz N M) {k : Nat} (hk : k ≤ 1000) {q : Rat} (h : Fx N (k * M) q) : Bq q := h.bq S.nn (up (S.sm k hk) (by decide))
theorem fx2 {N M : Nat} {q : Rat} (h : Fx N M q) : Fx N (2 * M) (2 * q) := by
  have : (2 : Rat) * q = q + q := by grind
  rw [this, Nat.two_mul]
  exact h.add h
@[simp] theorem all_bools (bs : List Bool) : dAll [.list (bs.map PyData.bool)] = some (.val (.bool (bs.all id))) := by simp [dAll]
/-- the heaps, as they are told -/
def heapsF (total : Rat) : List Rat → Rat → Int → List Int
  | [], _, _ => []
  | a :: as, h, k => if k = 0 ∧ total ≤ 2 * (h + a) then 1 :: heapsF total as (h + a) 2 else k :: heapsF total as (h + a) k
/-- the amounts that are told -/
def amt (T q : Rat) : Rat := if 2 * q ≤ T then q else T - q
def amts (ss : List (Rat × Rat)) : List Rat := ss.map fun p => amt (tot ss) p.2
theorem Spans.amts {N M : Nat} {ss : List (Rat × Rat)} (S : Spans N M ss) : ∀ q ∈ Fr.amts ss, Fx N (101 * M) q := fun q hq => by
  obtain ⟨p, hp, rfl⟩ :=
                                                                                                                List.mem_map.mp hq
  unfold amt
  split
  · exact (S.all p hp).f2.mono (by omega)
  · exact (S.left hp).1
end Fr

namespace Fr
open PySem Mv Sh

/-! ### the mathematics of closing -/
theorem Span.g0 {N M : Nat} {p : Rat × Rat} (h : Span N M p) : 0 ≤ p.2 := Rat.le_trans h.lo h.le
end Fr

namespace Fr
open PySem Mv Sh

/-! ### the law's own looks -/
theorem kit_ii : L2.kitB "int" "int" = some true := by decide +kernel
theorem kit_ib : L2.kitB "int" "bool" = some false := by decide +kernel
theorem kit_tt : L2.kitB "tuple" "tuple" = some true := by decide +kernel
@[simp] theorem isi_ii (z : Int) : isiD "int" (.int z) = some (.val (.bool true)) := by unfold isiD tyOf; rw [kit_ii]; rfl
@[simp] theorem isi_ib (z : Int) : isiD "bool" (.int z) = some (.val (.bool false)) := by unfold isiD tyOf; rw [kit_ib]; rfl
@[simp] theorem isi_tt (ds : List D) : isiD "tuple" (.tuple ds) = some (.val (.bool true)) := by unfold isiD tyOf; rw [kit_tt]; rfl
@[simp] theorem isi_fr (q : Rat) : isiD "tuple" (fr q) = some (.val (.bool true)) := isi_tt _
@[simp] theorem len_fr (q : Rat) : dLen [fr q] = some (.val (.int 2)) := rfl
@[simp] theorem len_sp (p : Rat × Rat) : dLen [sp p] = some (.val (.int 2)) := rfl
theorem shaped_nil : SeqAt.shaped (.list []) = true := by simp [SeqAt.shaped, PyData.canLay0, PyData.canLayAll0, PyData.depth, PyData.depthAll]
@[simp] theorem eq_nil : dEq (.list []) (.list []) = some (.val (.bool true)) := eq_self shaped_nil
@[simp] theorem ne_nil : dNe (.list []) (.list []) = some (.val (.bool false)) := by
  rw [dNe]
  · rw [if_pos ⟨shaped_nil, shaped_nil⟩, eqv_self _ (shaped_lay shaped_nil)]
    rfl
  · intro _ _ h; cases h
end Fr

namespace Fr
open PySem Mv Sh

end Fr

namespace Fr
open PySem Mv Sh

/-! ### told closings hold -/
def told (ss : List (Rat × Rat)) : D := .tuple [.tuple ((amts ss).map fr), .tuple ((heapsF (sumQ (amts ss)) (amts ss) 0 0).map PyData.int)]
/-! ### scaled spans -/
end Fr

namespace Fr
open PySem Mv Sh

/-! ### right angles -/
def dirs : List (Int × Int) := [(1, 0), (0, 1), (-1, 0), (0, -1)]
/-- what is known of the arrow so far; G is the sum of the greatest -/
structure Arr (G : Rat) (done : List (Rat × Rat)) (r o : Rat) : Prop where
  a1 : r + o ≤ G
  a2 : -(r + o) ≤ G
  a3 : r - o ≤ G
  a4 : -(r - o) ≤ G
  a5 : ∀ p ∈ done, p.1 - (G - p.2) ≤ r ∨ p.1 - (G - p.2) ≤ -r ∨ p.1 - (G - p.2) ≤ o ∨ p.1 - (G - p.2) ≤ -o
theorem Arr.step {G : Rat} {done : List (Rat × Rat)} {r o : Rat} (h : Arr G done r o) {p : Rat × Rat} {a : Rat} (h0 : 0 ≤ p.1) (h1 : p.1 ≤ a) (h2 : a ≤ p.2) {c : Int × Int} (hc : c ∈ dirs) : Arr (G + p.2) (done ++ [p]) (r + a * (c.1 : Rat)) (o + a * (c.2 : Rat)) := by
  obtain ⟨a1, a2, a3, a4, a5⟩ := h
  have old : ∀ r' o' : Rat, r - a ≤ r' → -r - a ≤ -r' → o - a ≤ o' → -o - a ≤ -o' → ∀ q ∈ done, q.1 - (G + p.2 - q.2) ≤ r' ∨ q.1 - (G + p.2 - q.2) ≤ -r' ∨ q.1 - (G + p.2 - q.2) ≤ o' ∨ q.1 - (G + p.2 - q.2) ≤ -o' := fun r' o' b1 b2 b3 b4 q hq => by
    rcases a5 q hq with z | z | z | z
    · left; grind
    · right; left; grind
    · right; right; left; grind
    · right; right; right; grind
  simp only [dirs, List.mem_cons, List.not_mem_nil, or_false] at hc
  rcases hc with rfl | rfl | rfl | rfl
  · have e1 : r + a * ((1 : Int) : Rat) = r + a := by grind
    have e2 : o + a * ((0 : Int) : Rat) = o := by grind
    rw [e1, e2]
    refine ⟨by grind, by grind, by grind, by grind, fun q hq => ?_⟩
    rcases List.mem_append.mp hq with
                                                                                                                  hq | hq
    · exact old _ _ (by grind) (by grind) (by grind) (by grind) q hq
    · cases List.mem_singleton.mp hq; left; grind
  · have e1 : r + a * ((0 : Int) : Rat) = r := by grind
    have e2 : o + a * ((1 : Int) : Rat) = o + a := by grind
    rw [e1, e2]
    refine ⟨by grind, by grind, by grind, by grind, fun q hq => ?_⟩
    rcases List.mem_append.mp hq with
                                                                                                                  hq | hq
    · exact old _ _ (by grind) (by grind) (by grind) (by grind) q hq
    · cases List.mem_singleton.mp hq; right; right; left; grind
  · have e1 : r + a * ((-1 : Int) : Rat) = r - a := by grind
    have e2 : o + a * ((0 : Int) : Rat) = o := by grind
    rw [e1, e2]
    refine ⟨by grind, by grind, by grind, by grind, fun q hq => ?_⟩
    rcases List.mem_append.mp hq with
                                                                                                                  hq | hq
    · exact old _ _ (by grind) (by grind) (by grind) (by grind) q hq
    · cases List.mem_singleton.mp hq; right; left; grind
  · have e1 : r + a * ((0 : Int) : Rat) = r := by grind
    have e2 : o + a * ((-1 : Int) : Rat) = o - a := by grind
    rw [e1, e2]
    refine ⟨by grind, by grind, by grind, by grind, fun q hq => ?_⟩
    rcases List.mem_append.mp hq with
                                                                                                                  hq | hq
    · exact old _ _ (by grind) (by grind) (by grind) (by grind) q hq
    · cases List.mem_singleton.mp hq; right; right; right; grind
theorem sq_le {x y : Rat} (h0 : 0 ≤ x) (h : x ≤ y) : x * x ≤ y * y :=
  Rat.le_trans (Rat.mul_le_mul_of_nonneg_left h h0) (Rat.mul_le_mul_of_nonneg_right h (Rat.le_trans h0 h))
theorem sq_le_abs {x y : Rat} (h1 : x ≤ y) (h2 : -x ≤ y) : x * x ≤ y * y := by
  rcases Rat.le_total (a := 0) (b := x) with h | h
  · exact sq_le h h1
  · have := sq_le (x := -x) (by grind) h2
    grind
theorem Arr.top {G : Rat} {done : List (Rat × Rat)} {r o : Rat} (h : Arr G done r o) : r * r + o * o ≤ G * G := by
  have h1 := sq_le_abs h.a1 h.a2
  have h2 := sq_le_abs h.a3 h.a4
  grind
theorem maxQ_mem : ∀ (rs : List Rat) (q : Rat), maxQ q rs = q ∨ maxQ q rs ∈ rs
  | [], q => .inl rfl
  | r :: rs, q => by
    rw [maxQ]
    rcases maxQ_mem rs (if q < r then r else q) with h | h
    · rw [h]
      split
      · exact .inr List.mem_cons_self
      · exact .inl rfl
    · exact .inr (List.mem_cons_of_mem _ h)
end Fr

namespace Fr
open PySem Mv Sh

@[simp] theorem pr0 (a b : Int) : dIx (prD a b) (.int 0) = some (.val (.int a)) := rfl
@[simp] theorem pr1 (a b : Int) : dIx (prD a b) (.int 1) = some (.val (.int b)) := rfl
end Fr

namespace Fr
open PySem Mv Sh

/-! ### what may be told: sizes of texts -/
mutual
/-- at most so many signs -/
def wide : D → Nat
  | .none => 4
  | .bool _ => 5
  | .int _ => 1921
  | .str _ => 400
  | .list xs => wides xs + 3
  | .tuple xs => wides xs + 3
  | .dict _ => 0
def wides : List D → Nat
  | [] => 0
  | x :: xs => wide x + 2 + wides xs
end
mutual
/-- no text, no dict; numbers that can be told -/
def plain : D → Prop
  | .none => True
  | .bool _ => True
  | .int i => i.natAbs.log2 < 1920
  | .str x => PyData.strOk x = true ∧ (PyData.str x).shown.length ≤ 400
  | .list xs => plains xs
  | .tuple xs => plains xs
  | .dict _ => False
def plains : List D → Prop
  | [] => True
  | x :: xs => plain x ∧ plains xs
end
mutual
theorem plain_ok : ∀ d : D, plain d → d.showable = true ∧ d.shown.length ≤ wide d ∧ d.canLay0 = true
  | .none, _ => ⟨by simp only [PyData.showable], by simp only [PyData.shown, wide]; decide, by simp only [PyData.canLay0]⟩
  | .bool b, _ => ⟨by simp only [PyData.showable], by simp only [PyData.shown, wide]; cases b <;> decide, by simp only [PyData.canLay0]⟩
  | .int i, h => by
    have h' : i.natAbs.log2 < 1920 := h
    refine ⟨by simp only [PyData.showable]; exact decide_eq_true h', ?_, by simp only [PyData.canLay0]⟩
    simp only [PyData.shown, wide]
    have e : (Str.ofString (toString i)).length = (toString i).length := ofString_length _
    have e2 := int_text_length_le (k := 1920) (by decide) h'
    show (Str.ofString (toString i)).length ≤ 1921
    omega
  | .str _, h => ⟨by simp only [PyData.showable], h.2, by simp only [PyData.canLay0]; exact h.1⟩
  | .list xs, h => by
    obtain ⟨h1, h2, h3, h4⟩ := plains_ok xs h
    refine ⟨by simpa only [PyData.showable] using h1, ?_, by simpa only [PyData.canLay0] using h3⟩
    simp only [PyData.shown, wide]
    have := listText_len_le (PyData.shownAll xs)
    omega
  | .tuple xs, h => by
    obtain ⟨h1, h2, h3, h4⟩ := plains_ok xs h
    refine ⟨by simpa only [PyData.showable] using h1, ?_, by simpa only [PyData.canLay0] using h3⟩
    simp only [PyData.shown, wide]
    have := tupleText_len_le (PyData.shownAll xs)
    omega
  | .dict _, h => h.elim
theorem plains_ok : ∀ ds : List D, plains ds → PyData.showableAll ds = true ∧ ((PyData.shownAll ds).map (·.length)).sum + 2 * (PyData.shownAll ds).length ≤ wides ds ∧ PyData.canLayAll0 ds = true ∧ True
  | [], _ => ⟨by simp only [PyData.showableAll], by simp [PyData.shownAll, wides], by simp only [PyData.canLayAll0], trivial⟩
  | d :: ds, h => by
    obtain ⟨a1, a2, a3⟩ := plain_ok d h.1
    obtain ⟨b1, b2, b3, _⟩ := plains_ok ds h.2
    refine ⟨by simp only [PyData.showableAll, a1, b1, Bool.and_self], ?_, by simp only [PyData.canLayAll0, a3, b3, Bool.and_self], trivial⟩
    simp only [PyData.shownAll, List.map_cons, List.sum_cons, List.length_cons, wides]
    omega
end
theorem tell_of {d : D} (h : plain d) (hw : wide d ≤ 1000000) (hd : d.depth ≤ 60) : Tell d := by
  obtain ⟨h1, h2, h3⟩ := plain_ok d h
  refine ⟨?_, h1, ?_, by omega, repB_of (noDict_lay h3)⟩
  · show (d.canLay0 && decide (d.depth ≤ 64)) = true
    rw [h3, decide_eq_true (by omega)]
    rfl
  · have : d.shown.length ≤ 1000000 := by omega
    exact this
theorem plains_of {ds : List D} (h : ∀ d ∈ ds, plain d) : plains ds := by
  induction ds with
  | nil => trivial
  | cons d ds ih => exact ⟨h d List.mem_cons_self, ih fun x hx => h x (List.mem_cons_of_mem _ hx)⟩
theorem wides_of {ds : List D} {k : Nat} (h : ∀ d ∈ ds, wide d ≤ k) : wides ds ≤ ds.length * (k + 2) := by
  induction ds with
  | nil => simp [wides]
  | cons d ds ih =>
    have h1 := h d List.mem_cons_self
    have h2 := ih fun x hx => h x (List.mem_cons_of_mem _ hx)
    rw [wides, List.length_cons, Nat.succ_mul]
    omega
theorem depths_of {ds : List D} {k : Nat} (h : ∀ d ∈ ds, d.depth ≤ k) : PyData.depthAll ds ≤ k := by
  induction ds with
  | nil => simp [PyData.depthAll]
  | cons d ds ih =>
    have h1 := h d List.mem_cons_self
    have h2 := ih fun x hx => h x (List.mem_cons_of_mem _ hx)
    simp only [PyData.depthAll]
    omega
/-- a fraction that can be told -/
def Tq (q : Rat) : Prop := q.num.natAbs < 2 ^ 1900 ∧ q.den < 2 ^ 1900
end Fr

namespace Fr
open PySem Mv Sh

theorem bag_ok {ns : List Int} (h : ns.length ≤ 63) : ∃ ys, m__law_bag [.list (ns.map PyData.int)] = some (.ret (.own false ys)) ∧ BagOk ys := by
  have hc : cutD (ns.map PyData.int) none (some 63) = ns.map PyData.int := by
    unfold cutD
    rw [HT.sIx_none, show HT.sIx (ns.map PyData.int).length (ns.map PyData.int).length (some 63) = min 63 (ns.map PyData.int).length from HT.sIx_nat _ _ 63]
    simp
    exact List.take_of_length_le (by simp; omega)
  have hl : ns.length ≤ 1000000 := by omega
  have h1 : lcL (pNm 1) bYes (vCb dAbs (vCons (vVar 1) (vNil))) [1] (ns.map PyData.int) [.val (.list (ns.map PyData.int)), .no] = .ok (ns.map fun n => .int (n.natAbs : Int)) [.val (.list (ns.map PyData.int)), .no] :=
    lcL_map PyData.int _ ns fun n _ => ⟨.val (.list (ns.map PyData.int)), [.val (.int n)], [.val (.list (ns.map PyData.int)), .val (.int n)], rfl, by simp, rfl⟩
  refine ⟨bagD 0 1234567891 0 (ns.map fun n => (n.natAbs : Int)), ?_, _, _, _, _, rfl, ⟨by decide, by decide, by decide, by decide, fun c hc => ?_, by rw [List.length_map]; exact h⟩⟩
  · have e : (ns.map fun n => (n.natAbs : Int)).map PyData.int = ns.map fun n => .int (n.natAbs : Int) := by rw [List.map_map]; rfl
    unfold bagD
    rw [e]
    simp only [m__law_bag, runM, g__law_bag, List.length_cons, List.length_nil, if_true]
    simp [startE, noOwn, wipeE, backE, lim_is, hc, hl, h1]
  · obtain ⟨n, _, rfl⟩ := List.mem_map.mp hc
    omega
@[simp] theorem ne_bool (a b : Bool) : dNe (.bool a) (.bool b) = some (.val (.bool (a != b))) := by
  rw [dNe]
  · rw [if_pos ⟨shaped_bool a, shaped_bool b⟩]
    cases a <;> cases b <;> simp [PyData.eqv]
  · intro _ _ h; cases h
@[simp] theorem is_none : dIs .none .none = some (.val (.bool true)) := rfl
@[simp] theorem is_tup (ds : List D) : dIs (.tuple ds) .none = some (.val (.bool false)) := rfl
@[simp] theorem isnt_none : dIsnt .none .none = some (.val (.bool false)) := rfl
@[simp] theorem isnt_tup (ds : List D) : dIsnt (.tuple ds) .none = some (.val (.bool true)) := rfl
@[simp] theorem is_told (ss : List (Rat × Rat)) : dIs (told ss) .none = some (.val (.bool false)) := rfl
@[simp] theorem isnt_told (ss : List (Rat × Rat)) : dIsnt (told ss) .none = some (.val (.bool true)) := rfl
/-- a size that may be asked -/
structure SizeOk (x : Rat) : Prop where
  nn : 0 ≤ x
  fx : Fx 840 (2 ^ 150) x
end Fr

namespace Fr
open PySem Mv Sh

/-! ### the least of a list -/
/-! ### what is left of a span -/
theorem cut_drop (xs : List D) {n : Nat} (h : n ≤ xs.length) : cutD xs (some (n : Int)) none = xs.drop n := by
  unfold cutD
  rw [HT.sIx_none, show HT.sIx xs.length 0 (some (n : Int)) = min n xs.length from HT.sIx_nat _ _ n, Nat.min_eq_left h]
  exact List.take_of_length_le (by rw [List.length_drop]; exact Nat.le_refl _)
def others (ss : List (Rat × Rat)) (k : Nat) : List (Rat × Rat) := ss.take k ++ ss.drop (k + 1)
theorem others_in {ss : List (Rat × Rat)} {k : Nat} : ∀ p ∈ others ss k, p ∈ ss := fun p hp => by
  rcases List.mem_append.mp hp with
                                                                                                                h | h
  · exact List.mem_of_mem_take h
  · exact List.mem_of_mem_drop h
theorem Spans.others {N M : Nat} {ss : List (Rat × Rat)} (S : Spans N M ss) (k : Nat) : Spans N M (Fr.others ss k) := by
  refine ⟨fun p hp => S.all p (others_in p hp), ?_, S.n0, S.n1, S.m1⟩
  unfold Fr.others
  rw [List.length_append, List.length_take, List.length_drop]
  have := S.len
  omega
theorem Spans.low {N M : Nat} {ss : List (Rat × Rat)} (S : Spans N M ss) : Fx N (102 * M) (Fr.low ss) := by
  rcases maxQ_mem (ss.map (leftOf ss)) 0 with e | e
  · have e : Fr.low ss = 0 := e
    rw [e]; exact Fx.zero
  · obtain ⟨p, hp, e⟩ := List.mem_map.mp e
    have e : leftOf ss p = Fr.low ss := e
    rw [← e]; exact (S.left hp).2
end Fr

namespace Fr
open PySem Mv Sh

@[simp] theorem e_ins (g : M (List D)) (s : Sl) (es : List Sl) (i : Nat) : sIns i g (s :: es) = ownAt i (s :: es) fun _ _ => (g (s :: es)).bind fun ds e => ownAt i e fun b xs => match ds with
  | [.int k, d] => if xs.length < LIM ∧ 0 ≤ k ∧ k < 1000000000 then .ok .nx (e.set i (.own b (xs.take k.toNat ++ [d] ++ xs.drop k.toNat))) else .bad
  | _ => .bad := rfl
/-! ### things mixed -/
def mxB : MS := sIns 2 (vCons (vCallB 0 m__law_take (vCons (vOp dAdd (vLenv 2) (vC (.int 1))) (vNil))) (vCons (vVar 3) (vNil)))
def MxI (all : List D) (s1 : Sl) (rest : List D) (e : En) : Prop := ∃ (ys found : List D) (s3 : Sl), e = [.own true ys, s1, .own false found, s3] ∧ (found ++ rest).Perm all ∧ BagOk ys
theorem mixed_ok {xs : List D} (hb : BagOk xs) {ds : List D} {d0 : D} (h0 : d0 = .list ds ∨ d0 = .tuple ds) (hl : ds.length ≤ 1000) : ∃ zs ys, m__law_mixed xs [d0] = some (.ret (.own false zs), ys) ∧ zs.Perm ds ∧ BagOk ys := by
  obtain ⟨e', h, ys, zs, s3, rfl, P, B⟩ := for_inv (pat := pNm 3) (b := mxB) (MxI ds (.val d0)) (fun d rest e ⟨ys, found, a3, he, P, B⟩ => by
    subst he
    have len := P.length_eq
    rw [List.length_append, List.length_cons] at len
    obtain ⟨v, y2, e2, v0, v1, B2⟩ := take_ok B (many := (found.length : Int) + 1) (by omega) (by omega)
    have h1 : found.length < 1000000 := by omega
    have h2 : v < 1000000000 := by omega
    refine ⟨_, [.own true y2, .val d0, .own false (found.take v.toNat ++ [d] ++ found.drop v.toNat), .val d], rfl, ?_, y2, _, _, rfl, ?_, B2⟩
    · simp [mxB, lim_is, e2, h1, h2, v0]
    · refine List.Perm.trans ?_ P
      rw [List.append_assoc,
                                                                                                                    List.append_assoc]
      have e3 : found ++ d :: rest = found.take v.toNat ++ (found.drop v.toNat ++ (d :: rest)) := by rw [← List.append_assoc, List.take_append_drop]
      rw [e3]
      refine List.Perm.append_left (found.take v.toNat) ?_
      exact (List.perm_middle (a := d) (l₁ := found.drop v.toNat) (l₂ := rest)).symm) ds [.own true xs, .val d0, .own false [], .no] ⟨xs, [], .no, rfl, List.Perm.refl _, hb⟩
  rw [List.append_nil] at P
  have h : forL (pNm 3) mxB ds _ = _ := h
  unfold mxB at h
  refine ⟨zs, ys, ?_, P, B⟩
  simp only [m__law_mixed, runB, g__law_mixed, List.length_cons, List.length_nil, if_true]
  rcases h0 with rfl | rfl
  · simp [startE, h]
  · simp [startE, h]
/-! ### the law's own closing -/
end Fr

namespace Fr
open PySem Mv Sh

@[simp] theorem isi_sp (p : Rat × Rat) : isiD "tuple" (sp p) = some (.val (.bool true)) := isi_tt _
end Fr

namespace Fr
open PySem Mv Sh

/-! ### amounts that close -/
structure Cl (ss : List (Rat × Rat)) (xs : List Rat) : Prop where
  len : xs.length = ss.length
  mid : ∀ (k : Nat) p x, ss[k]? = some p → xs[k]? = some x → p.1 ≤ x ∧ x ≤ p.2
  sml : ∀ x ∈ xs, x ≤ sumQ xs - x
/-! ### one span otherwise -/
theorem others_perm : ∀ {ss : List (Rat × Rat)} {k : Nat} {p : Rat × Rat}, ss[k]? = some p → ss.Perm (others ss k ++ [p])
  | [], k, p, h => by simp at h
  | q :: ss, 0, p, h => by
    cases h
    exact (List.perm_append_singleton _ _).symm
  | q :: ss, k + 1, p, h => by
    have := others_perm (ss := ss) (k := k) (p := p) (by simpa using h)
    have e : others (q :: ss) (k + 1) = q :: others ss k := rfl
    rw [e]
    exact this.cons q
theorem others_set (ss : List (Rat × Rat)) (k : Nat) (p : Rat × Rat) : others (ss.set k p) k = others ss k := by
  unfold others
  rw [List.take_set_of_le (Nat.le_refl _), List.drop_set_of_lt (Nat.lt_succ_self _)]
theorem set_perm {ss : List (Rat × Rat)} {k : Nat} (hk : k < ss.length) (p : Rat × Rat) : (ss.set k p).Perm (others ss k ++ [p]) := by
  have := others_perm (ss := ss.set k p) (k := k) (p := p) (by rw [List.getElem?_set_self hk])
  rwa [others_set] at this
section
variable {N M : Nat} {ss : List (Rat × Rat)} {k : Nat} {p : Rat × Rat}
end
end Fr

namespace Fr
open PySem Mv Sh

def led (ss : List (Rat × Rat)) (k : Nat) (a : Rat) : List (Rat × Rat) := ss.set k (a, a)
@[simp] theorem isnt_bool (a b : Bool) : dIsnt (.bool a) (.bool b) = some (.val (.bool (!decide (a = b)))) := rfl
section
variable {M : Nat} {ss : List (Rat × Rat)} {k : Nat} {p : Rat × Rat}
end
end Fr

namespace Fr
open PySem Mv Sh

section
variable (f g : M Sl) (s : Sl) (es : List Sl) (i : Nat) (l h : M (Option Int))
@[simp] theorem e_slv : vSlv i l h (s :: es) = match (s :: es)[i]? with
  | some (.val d) => (l (s :: es)).bind fun lo e2 => (h e2).bind fun hi e3 => opt (dSl d lo hi) e3
  | some (.own _ _) => (l (s :: es)).bind fun lo e2 => (h e2).bind fun hi e3 => ownE i e3 fun _ xs => opt (some (.own false (cutD xs lo hi))) e3
  | _ => .bad := rfl
@[simp] theorem e_vtr : vTr f (s :: es) = (vD f (s :: es)).bind truE := rfl
@[simp] theorem e_orT : vOrT f g (s :: es) = (vD f (s :: es)).bind fun d e => (truE d e).bind fun b e2 => if b = true then .ok (.val d) e2 else g e2 := rfl
@[simp] theorem e_andT : vAndT f g (s :: es) = (vD f (s :: es)).bind fun d e => (truE d e).bind fun b e2 => if b = true then g e2 else .ok (.val d) e2 := rfl
end
@[simp] theorem dList_l (xs : List D) : dList [.list xs] = some (.own false xs) := rfl
@[simp] theorem dList_t (xs : List D) : dList [.tuple xs] = some (.own false xs) := rfl
@[simp] theorem dTuple_l (xs : List D) : dTuple [.list xs] = some (.val (.tuple xs)) := rfl
@[simp] theorem ne_str (x y : Str) : dNe (.str x) (.str y) = some (.val (.bool (!decide (x = y)))) := rfl
@[simp] theorem eq_int (a b : Int) : dEq (.int a) (.int b) = some (.val (.bool (decide (a = b)))) := by
  rw [dEq]
  · rw [if_pos ⟨shaped_int a, shaped_int b⟩]
    simp only [PyData.eqv]
    rfl
  · intro _ _ h; cases h
@[simp] theorem ne_int (a b : Int) : dNe (.int a) (.int b) = some (.val (.bool (!decide (a = b)))) := by
  rw [dNe]
  · rw [if_pos ⟨shaped_int a, shaped_int b⟩]
    simp only [PyData.eqv]
    rfl
  · intro _ _ h; cases h
theorem tell_list {ds : List D} {w h : Nat} (p : ∀ d ∈ ds, plain d ∧ wide d ≤ w ∧ d.depth ≤ h) (hw : ds.length * (w + 2) + 3 ≤ 1000000) (hh : h ≤ 59) : Tell (.list ds) ∧ Tell (.tuple ds) := by
  have pl := plains_of fun d hd => (p d hd).1
  have wd := wides_of fun d hd => (p d hd).2.1
  have dp := depths_of fun d hd => (p d hd).2.2
  constructor
  · exact tell_of pl (by show wides ds + 3 ≤ 1000000; omega) (by simp only [PyData.depth]; omega)
  · exact tell_of pl (by show wides ds + 3 ≤ 1000000; omega) (by simp only [PyData.depth]; omega)
/-- a loop over things of one kind -/
theorem for_each {α : Type} {pat : D → En → Option En} {b : MS} (a : α → D) (I : List α → En → Prop) (stp : ∀ x xs e, I (x :: xs) e → ∃ e1 e2, pat (a x) e = some e1 ∧ b e1 = .ok .nx e2 ∧ I xs e2) (xs : List α) (e : En) (h : I xs e) : ∃ e', forL pat b (xs.map a) e = .ok .nx e' ∧ I [] e' := by
  obtain ⟨e', h1, ys, h2, h3⟩ := for_inv (pat := pat) (b := b) (fun ds e => ∃ ys : List α, ds = ys.map a ∧ I ys e) (fun d ds e ⟨ys, hd, hi⟩ => by
    cases ys with
    | nil => cases hd
    | cons y ys =>
      rw [List.map_cons, List.cons.injEq] at hd
      obtain ⟨rfl, rfl⟩ := hd
      obtain ⟨e1, e2, h1, h2, h3⟩ := stp y ys e hi
      exact ⟨e1, e2, h1, h2, ys, rfl, h3⟩) (xs.map a) e ⟨xs, rfl, h⟩
  have : ys = [] := by cases ys with
    | nil => rfl
    | cons y ys => cases h2
  subst this
  exact ⟨e', h1, h3⟩
/-- a loop that ends where a test fails -/
theorem for_test {α : Type} {pat : D → En → Option En} {b : MS} (a : α → D) (p : α → Bool) (r : Sl) (I : En → Prop) : ∀ (xs : List α) (e : En), (∀ x ∈ xs, ∀ e, I e → ∃ e1 e2, pat (a x) e = some e1 ∧ (p x = true → b e1 = .ok .nx e2 ∧ I e2) ∧ (p x = false → b e1 = .ok (.rt r) e2)) → I e →
    ∃ e', forL pat b (xs.map a) e = .ok (if xs.all p = true then Fl.nx else Fl.rt r) e' ∧ (xs.all p = true → I e')
  | [], e, _, hi => ⟨e, rfl, fun _ => hi⟩
  | x :: xs, e, stp, hi => by
    obtain ⟨e1, e2, h1, h2, h3⟩ := stp x List.mem_cons_self e hi
    cases hp : p x with
    | true =>
      obtain ⟨h4, h5⟩ := h2 hp
      obtain ⟨e', h6, h7⟩ := for_test a p r I xs e2 (fun y hy => stp y (List.mem_cons_of_mem _ hy)) h5
      refine ⟨e', ?_, fun h => h7 (by rw [List.all_cons, hp, Bool.true_and] at h; exact h)⟩
      rw [List.map_cons, forL_nx h1 h4, h6, List.all_cons, hp, Bool.true_and]
    | false =>
      refine ⟨e2, ?_, fun h => by rw [List.all_cons, hp] at h; cases h⟩
      rw [List.map_cons, forL, h1]
      dsimp only
      rw [h3 hp, List.all_cons, hp, Bool.false_and]
      rfl
theorem ne_nil_of {ds : List D} (h : SeqAt.shaped (.list ds) = true) : dNe (.list ds) (.list []) = some (.val (.bool (!ds.isEmpty))) := by
  rw [dNe]
  · rw [if_pos ⟨h, shaped_nil⟩]
    cases ds <;> simp [PyData.eqv, PyData.eqvAll]
  · intro _ _ h; cases h
/-- turns that leave the names as they are -/
theorem lcL_keep {α : Type} {pat : D → En → Option En} {tt : M Bool} {el : M Sl} {vs : List Nat} {e : En} (a : α → D) (p : α → Bool) (b : α → D) (xs : List α) (h : ∀ x ∈ xs, ∃ s es, pat (a x) e = some (s :: es) ∧ wipeE (s :: es) vs = e ∧ tt (s :: es) = .ok (p x) (s :: es) ∧ (p x = true → vD el (s :: es) = .ok (b x) (s :: es))) :
    lcL pat tt el vs (xs.map a) e = .ok ((xs.filter p).map b) e :=
  lcL_filter a p b xs fun x hx => let ⟨s, es, h1, h2, h3, h4⟩ := h x hx; ⟨s, es, _, _, h1, h3, fun hp => ⟨h4 hp, h2⟩, fun _ => h2⟩
theorem lcL_each {α : Type} {pat : D → En → Option En} {el : M Sl} {vs : List Nat} {e : En} (a : α → D) (b : α → D) (xs : List α) (h : ∀ x ∈ xs, ∃ s es, pat (a x) e = some (s :: es) ∧ wipeE (s :: es) vs = e ∧ vD el (s :: es) = .ok (b x) (s :: es)) :
    lcL pat bYes el vs (xs.map a) e = .ok (xs.map b) e :=
  lcL_map a b xs fun x hx => let ⟨s, es, h1, h2, h3⟩ := h x hx; ⟨s, es, _, h1, h3, h2⟩
end Fr

namespace Fr
open PySem Mv Sh

/-! ### nets -/
structure Box where
  src : Nat
  goal : Nat
  span : Rat × Rat
def boxD (b : Box) : D := .tuple [.int (b.src : Int), .int (b.goal : Int), fr b.span.1, fr b.span.2]
def inpD (p : Nat × (Rat × Rat)) : D := .tuple [.int (p.1 : Int), fr p.2.1, fr p.2.2]
structure Net where
  many : Nat
  boxes : List Box
  inps : List (Nat × (Rat × Rat))
def netD (N : Net) : D := .tuple [.int (N.many : Int), .tuple (N.boxes.map boxD), .tuple (N.inps.map inpD)]
@[simp] theorem netD0 (N : Net) : dIx (netD N) (.int 0) = some (.val (.int (N.many : Int))) := rfl
@[simp] theorem netD1 (N : Net) : dIx (netD N) (.int 1) = some (.val (.tuple (N.boxes.map boxD))) := rfl
@[simp] theorem netD2 (N : Net) : dIx (netD N) (.int 2) = some (.val (.tuple (N.inps.map inpD))) := rfl
@[simp] theorem boxD0 (b : Box) : dIx (boxD b) (.int 0) = some (.val (.int (b.src : Int))) := rfl
@[simp] theorem boxD1 (b : Box) : dIx (boxD b) (.int 1) = some (.val (.int (b.goal : Int))) := rfl
@[simp] theorem boxD2 (b : Box) : dIx (boxD b) (.int 2) = some (.val (fr b.span.1)) := rfl
@[simp] theorem boxD3 (b : Box) : dIx (boxD b) (.int 3) = some (.val (fr b.span.2)) := rfl
@[simp] theorem inpD0 (p : Nat × (Rat × Rat)) : dIx (inpD p) (.int 0) = some (.val (.int (p.1 : Int))) := rfl
/-- a net that is drawn: numbers of twelfths -/
structure NetOk (N : Net) : Prop where
  b : ∀ b ∈ N.boxes, b.src < N.many ∧ b.goal < N.many ∧ Span 12 108 b.span
  i : ∀ p ∈ N.inps, p.1 < N.many ∧ Span 12 108 p.2
  d : (N.inps.map (·.1)).Nodup
  bl : N.boxes.length ≤ 18
  il : N.inps.length ≤ 18
def into (N : Net) (k : Nat) : List Box := N.boxes.filter fun b => decide (b.goal = k)
/-- the input's span of a place: one, or none -/
def inAt (N : Net) (k : Nat) : List (Rat × Rat) := (N.inps.filter fun p => decide (p.1 = k)).map (·.2)
theorem few_of : ∀ {ps : List (Nat × (Rat × Rat))} (k : Nat), (ps.map (·.1)).Nodup → ((ps.filter fun p => decide (p.1 = k)).map (·.2)).length ≤ 1
  | [], _, _ => by simp
  | p :: ps, k, h => by
    rw [List.map_cons,
                                                                                                                  List.nodup_cons] at h
    have ih := few_of k h.2
    by_cases hp : p.1 = k
    · have : ps.filter (fun p => decide (p.1 = k)) = [] := by
        rw [List.filter_eq_nil_iff]
        intro q hq hd
        exact h.1 (List.mem_map.mpr ⟨q, hq, by rw [of_decide_eq_true hd, hp]⟩)
      rw [List.filter_cons_of_pos (by simpa using hp), this]
      simp
    · rw [List.filter_cons_of_neg (by simpa using hp)]
      exact ih
theorem NetOk.one {N : Net} (K : NetOk N) (k : Nat) : (inAt N k).length ≤ 1 := few_of k K.d
end Fr

namespace Fr
open PySem Mv Sh

/-! ### sizes, spans at a place -/
structure SzOk (C M : Nat) (n : Nat) (xs : List Rat) : Prop where
  len : xs.length = n
  all : ∀ q ∈ xs, 0 ≤ q ∧ Fx C M q
  c0 : 0 < C
  c1 : C < 2 ^ 150
  m1 : M < 2 ^ 150
def at0 (xs : List Rat) (k : Nat) : Rat := xs.getD k 0
theorem at_get {xs : List Rat} {k : Nat} (h : k < xs.length) : xs[k]? = some (at0 xs k) := by
  unfold at0
  rw [List.getD_eq_getElem?_getD, List.getElem?_eq_getElem h]
  rfl
theorem SzOk.at {C M n : Nat} {xs : List Rat} (h : SzOk C M n xs) {k : Nat} (hk : k < n) : 0 ≤ at0 xs k ∧ Fx C M (at0 xs k) := h.all _ (List.mem_of_getElem? (at_get (by rw [h.len]; exact hk)))
def led1 (xs : List Rat) (b : Box) : Rat × Rat := (b.span.1 * at0 xs b.src, b.span.2 * at0 xs b.src)
def spansOf (N : Net) (xs : List Rat) (k : Nat) : List (Rat × Rat) := (into N k).map (led1 xs) ++ inAt N k
theorem n6 : (0 : Nat) < 6 ∧ 6 < 2 ^ 4000 := ⟨by decide, up (n := 6) (k := 3) (by decide) (by decide)⟩
theorem SzOk.bq {C M n : Nat} {xs : List Rat} (h : SzOk C M n xs) {q : Rat} (hq : Fx C M q) : Bq q := hq.bq ⟨h.c0, up h.c1 (by decide)⟩ (up h.m1 (by decide))
/-- numerators of spans behind a beat -/
def MM (C M : Nat) : Nat := 108 * (M + C)
theorem SzOk.mm {C M n : Nat} {xs : List Rat} (h : SzOk C M n xs) : 12 * C < 2 ^ 160 ∧ MM C M < 2 ^ 160 := by
  have h1 := h.c1
  have h2 := h.m1
  have e : 2 ^ 160 = 1024 * 2 ^ 150 := by decide
  rw [e]
  unfold MM
  omega
section
variable {N : Net} {xs : List Rat} {k : Nat} {C M : Nat}
theorem NetOk.into (K : NetOk N) : ∀ b ∈ Fr.into N k, b.src < N.many ∧ b.goal = k ∧ Span 12 108 b.span := fun b hb => by
  obtain ⟨h1, h2⟩ := List.mem_filter.mp hb
  exact ⟨(K.b b h1).1, of_decide_eq_true h2, (K.b b h1).2.2⟩
theorem NetOk.ins (K : NetOk N) : ∀ p ∈ inAt N k, Span 12 108 p := fun p hp => by
  obtain ⟨q, hq, rfl⟩ :=
                                                                                                                List.mem_map.mp hp
  exact (K.i q (List.mem_filter.mp hq).1).2
theorem NetOk.spans (K : NetOk N) (S : SzOk C M N.many xs) : Spans (12 * C) (MM C M) (spansOf N xs k) := by
  have c0 := S.c0
  refine ⟨fun p hp => ?_, ?_, by omega, up S.mm.1 (by decide), up S.mm.2 (by decide)⟩
  · rcases List.mem_append.mp hp with
                                                                                                                  hp | hp
    · obtain ⟨b, hb, rfl⟩ := List.mem_map.mp hp
      obtain ⟨h1, _, P⟩ := K.into b hb
      obtain ⟨h0, f⟩ := S.at h1
      exact ⟨Rat.mul_nonneg P.lo h0, Rat.mul_le_mul_of_nonneg_right P.le h0, (P.f1.mul f).mono (by unfold MM; omega), (P.f2.mul f).mono (by unfold MM; omega)⟩
    · have P := K.ins p hp
      exact ⟨P.lo, P.le, (P.f1.fine C c0).mono (by unfold MM; omega), (P.f2.fine C c0).mono (by unfold MM; omega)⟩
  · unfold spansOf
    have h1 := K.one k
    have h2 : (Fr.into N k).length ≤ N.boxes.length := List.length_filter_le _ _
    have := K.bl
    rw [List.length_append, List.length_map]
    omega
end
end Fr

namespace Fr
open PySem Mv Sh

/-! ### the law's reach, sizes behind one beat -/
section
variable {N : Net} {xs : List Rat} {C M : Nat}
def wi (x : (Rat × Rat) × Rat) : Bool := decide (x.1.1 ≤ x.2) && decide (x.2 ≤ x.1.2)
end
end Fr

namespace Fr
open PySem Mv Sh

/-- a comprehension that draws -/
theorem lcL_draw {α β : Type} {pat : D → En → Option En} {el : M Sl} {vs : List Nat} (a : α → D) (bD : β → D) (P : α → β → Prop) (J : En → Prop) : ∀ (xs : List α), (∀ x ∈ xs, ∀ e, J e → ∃ s es y e3, pat (a x) e = some (s :: es) ∧ vD el (s :: es) = .ok (bD y) e3 ∧ P x y ∧ J (wipeE e3 vs)) → ∀ e, J e →
    ∃ (zs : List (α × β)) (e' : En), lcL pat bYes el vs (xs.map a) e = .ok (zs.map fun z => bD z.2) e' ∧ zs.map (·.1) = xs ∧ (∀ z ∈ zs, P z.1 z.2) ∧ J e'
  | [], _, e, j => ⟨[], e, rfl, rfl, fun _ h => (List.not_mem_nil h).elim, j⟩
  | x :: xs, h, e, j => by
    obtain ⟨s, es, y, e3, h1, h2, h3, h4⟩ := h x List.mem_cons_self e j
    obtain ⟨zs, e', h5, h6, h7, h8⟩ := lcL_draw a bD P J xs (fun z hz => h z (List.mem_cons_of_mem _ hz)) _ h4
    exact ⟨(x, y) :: zs, e', lcL_yes h1 rfl h2 h5, by rw [List.map_cons, h6], fun z hz => by
      rcases List.mem_cons.mp hz with
                                                                                                                    rfl | hz
      · exact h3
      · exact h7 z hz, h8⟩
theorem rng_map (n : Nat) : rngD 0 n = (List.range n).map fun (k : Nat) => PyData.int (k : Int) := by
  unfold rngD
  exact List.map_congr_left fun (k : Nat) _ => by rw [Int.zero_add]
/-! ### sizes that are drawn -/
/-! ### bounds, nets that are drawn -/
theorem perm_map {α : Type} {a : α → D} {xs : List α} {zs : List D} (h : zs.Perm (xs.map a)) : ∃ ys : List α, zs = ys.map a ∧ ys.Perm xs := by
  induction xs generalizing zs with
  | nil => exact ⟨[], List.perm_nil.mp h, .refl _⟩
  | cons x xs ih =>
    have hx : a x ∈ zs := h.mem_iff.mpr List.mem_cons_self
    obtain ⟨l1, l2, rfl⟩ := List.append_of_mem hx
    have h2 : (l1 ++ l2).Perm (xs.map a) := (List.perm_middle.symm.trans h).cons_inv
    obtain ⟨ys, h3, h4⟩ := ih h2
    have e1 : l1 = (ys.take l1.length).map a := by
      rw [List.map_take, ← h3, List.take_left]
    have e2 : l2 = (ys.drop l1.length).map a := by
      rw [List.map_drop, ← h3, List.drop_left]
    refine ⟨ys.take l1.length ++ x :: ys.drop l1.length, by rw [List.map_append, List.map_cons, ← e1, ← e2], ?_⟩
    refine List.perm_middle.trans ?_
    rw [List.take_append_drop]
    exact h4.cons x
end Fr

namespace Fr
open PySem Mv Sh

end Fr

namespace Fr
open PySem Mv Sh

/-! ### numbers between bounds, numbers beyond -/
structure Rg (C M : Nat) (p : Rat × Rat) : Prop where
  lo : 0 ≤ p.1
  le : p.1 ≤ p.2
  f1 : Fx C M p.1
  f2 : Fx C M p.2
structure Lim (C M : Nat) : Prop where
  c0 : 0 < C
  c1 : C < 2 ^ 180
  m1 : M < 2 ^ 180
theorem Lim.bq {C M : Nat} (L : Lim C M) {q : Rat} (h : Fx C M q) : Bq q := h.bq ⟨L.c0, up L.c1 (by decide)⟩ (up L.m1 (by decide))
theorem Rg.b1 {C M : Nat} {p : Rat × Rat} (L : Lim C M) (h : Rg C M p) : Bq p.1 := L.bq h.f1
theorem Rg.b2 {C M : Nat} {p : Rat × Rat} (L : Lim C M) (h : Rg C M p) : Bq p.2 := L.bq h.f2
theorem SzOk.lim {C M n : Nat} {xs : List Rat} (S : SzOk C M n xs) : Lim (12 * C) (102 * MM C M) := ⟨by have := S.c0; omega, up S.mm.1 (by decide), up (mul_lt (a := 102) (n := 7) (by decide) S.mm.2) (by decide)⟩
end Fr

namespace Fr
open PySem Mv Sh

/-! ### what any value is -/
section
variable (f : M Sl) (s : Sl) (es : List Sl) (i : Nat)
@[simp] theorem e_dic0 : vDic0 (s :: es) = .ok (.val (.dict [])) (s :: es) := rfl
@[simp] theorem e_dic1 (k : L2.Key) (d : D) : vDic1 k d (s :: es) = .ok (.val (.dict [(keyD k, d)])) (s :: es) := rfl
@[simp] theorem e_ext : sExt i f (s :: es) = ownAt i (s :: es) fun _ _ => (vD f (s :: es)).bind fun d e => ownAt i e fun b xs => match d with
  | .list ys => if xs.length + ys.length ≤ LIM then .ok .nx (e.set i (.own b (xs ++ ys))) else .bad
  | .tuple ys => if xs.length + ys.length ≤ LIM then .ok .nx (e.set i (.own b (xs ++ ys))) else .bad
  | _ => .bad := rfl
end
@[simp] theorem rev_list (xs : List D) : dRev (.list xs) = some (.own false xs.reverse) := rfl
@[simp] theorem rev_tuple (xs : List D) : dRev (.tuple xs) = some (.val (.tuple xs.reverse)) := rfl
@[simp] theorem bool_int (i : Int) : dBool [.int i] = some (.val (.bool (i != 0))) := rfl
def isTup : D → Bool
  | .tuple _ => true
  | _ => false
def isLst : D → Bool
  | .list _ => true
  | _ => false
def isInt : D → Bool
  | .int _ => true
  | _ => false
def isBool : D → Bool
  | .bool _ => true
  | _ => false
def isIntB : D → Bool
  | .int _ | .bool _ => true
  | _ => false
theorem kit_NoneType_tuple : L2.kitB "NoneType" "tuple" = some false := by decide +kernel
theorem kit_bool_tuple : L2.kitB "bool" "tuple" = some false := by decide +kernel
theorem kit_int_tuple : L2.kitB "int" "tuple" = some false := by decide +kernel
theorem kit_str_tuple : L2.kitB "str" "tuple" = some false := by decide +kernel
theorem kit_list_tuple : L2.kitB "list" "tuple" = some false := by decide +kernel
theorem kit_tuple_tuple : L2.kitB "tuple" "tuple" = some true := by decide +kernel
theorem kit_dict_tuple : L2.kitB "dict" "tuple" = some false := by decide +kernel
@[simp] theorem isi_tuple (d : D) : isiD "tuple" d = some (.val (.bool (isTup d))) := by
  unfold isiD
  rw [if_neg (no_plain (by decide +kernel))]
  cases d with
  | none => (show Option.map _ (L2.kitB "NoneType" "tuple") = _; rw [kit_NoneType_tuple]; rfl)
  | bool _ => (show Option.map _ (L2.kitB "bool" "tuple") = _; rw [kit_bool_tuple]; rfl)
  | int _ => (show Option.map _ (L2.kitB "int" "tuple") = _; rw [kit_int_tuple]; rfl)
  | str _ => (show Option.map _ (L2.kitB "str" "tuple") = _; rw [kit_str_tuple]; rfl)
  | list _ => (show Option.map _ (L2.kitB "list" "tuple") = _; rw [kit_list_tuple]; rfl)
  | tuple _ => (show Option.map _ (L2.kitB "tuple" "tuple") = _; rw [kit_tuple_tuple]; rfl)
  | dict _ => (show Option.map _ (L2.kitB "dict" "tuple") = _; rw [kit_dict_tuple]; rfl)
theorem kit_NoneType_list : L2.kitB "NoneType" "list" = some false := by decide +kernel
theorem kit_bool_list : L2.kitB "bool" "list" = some false := by decide +kernel
theorem kit_int_list : L2.kitB "int" "list" = some false := by decide +kernel
theorem kit_str_list : L2.kitB "str" "list" = some false := by decide +kernel
theorem kit_list_list : L2.kitB "list" "list" = some true := by decide +kernel
theorem kit_tuple_list : L2.kitB "tuple" "list" = some false := by decide +kernel
theorem kit_dict_list : L2.kitB "dict" "list" = some false := by decide +kernel
@[simp] theorem isi_list (d : D) : isiD "list" d = some (.val (.bool (isLst d))) := by
  unfold isiD
  rw [if_neg (no_plain (by decide +kernel))]
  cases d with
  | none => (show Option.map _ (L2.kitB "NoneType" "list") = _; rw [kit_NoneType_list]; rfl)
  | bool _ => (show Option.map _ (L2.kitB "bool" "list") = _; rw [kit_bool_list]; rfl)
  | int _ => (show Option.map _ (L2.kitB "int" "list") = _; rw [kit_int_list]; rfl)
  | str _ => (show Option.map _ (L2.kitB "str" "list") = _; rw [kit_str_list]; rfl)
  | list _ => (show Option.map _ (L2.kitB "list" "list") = _; rw [kit_list_list]; rfl)
  | tuple _ => (show Option.map _ (L2.kitB "tuple" "list") = _; rw [kit_tuple_list]; rfl)
  | dict _ => (show Option.map _ (L2.kitB "dict" "list") = _; rw [kit_dict_list]; rfl)
theorem kit_NoneType_int : L2.kitB "NoneType" "int" = some false := by decide +kernel
theorem kit_bool_int : L2.kitB "bool" "int" = some true := by decide +kernel
theorem kit_int_int : L2.kitB "int" "int" = some true := by decide +kernel
theorem kit_str_int : L2.kitB "str" "int" = some false := by decide +kernel
theorem kit_list_int : L2.kitB "list" "int" = some false := by decide +kernel
theorem kit_tuple_int : L2.kitB "tuple" "int" = some false := by decide +kernel
theorem kit_dict_int : L2.kitB "dict" "int" = some false := by decide +kernel
@[simp] theorem isi_int (d : D) : isiD "int" d = some (.val (.bool (isIntB d))) := by
  unfold isiD
  rw [if_neg (no_plain (by decide +kernel))]
  cases d with
  | none => (show Option.map _ (L2.kitB "NoneType" "int") = _; rw [kit_NoneType_int]; rfl)
  | bool _ => (show Option.map _ (L2.kitB "bool" "int") = _; rw [kit_bool_int]; rfl)
  | int _ => (show Option.map _ (L2.kitB "int" "int") = _; rw [kit_int_int]; rfl)
  | str _ => (show Option.map _ (L2.kitB "str" "int") = _; rw [kit_str_int]; rfl)
  | list _ => (show Option.map _ (L2.kitB "list" "int") = _; rw [kit_list_int]; rfl)
  | tuple _ => (show Option.map _ (L2.kitB "tuple" "int") = _; rw [kit_tuple_int]; rfl)
  | dict _ => (show Option.map _ (L2.kitB "dict" "int") = _; rw [kit_dict_int]; rfl)
theorem kit_NoneType_bool : L2.kitB "NoneType" "bool" = some false := by decide +kernel
theorem kit_bool_bool : L2.kitB "bool" "bool" = some true := by decide +kernel
theorem kit_int_bool : L2.kitB "int" "bool" = some false := by decide +kernel
theorem kit_str_bool : L2.kitB "str" "bool" = some false := by decide +kernel
theorem kit_list_bool : L2.kitB "list" "bool" = some false := by decide +kernel
theorem kit_tuple_bool : L2.kitB "tuple" "bool" = some false := by decide +kernel
theorem kit_dict_bool : L2.kitB "dict" "bool" = some false := by decide +kernel
@[simp] theorem isi_bool (d : D) : isiD "bool" d = some (.val (.bool (isBool d))) := by
  unfold isiD
  rw [if_neg (no_plain (by decide +kernel))]
  cases d with
  | none => (show Option.map _ (L2.kitB "NoneType" "bool") = _; rw [kit_NoneType_bool]; rfl)
  | bool _ => (show Option.map _ (L2.kitB "bool" "bool") = _; rw [kit_bool_bool]; rfl)
  | int _ => (show Option.map _ (L2.kitB "int" "bool") = _; rw [kit_int_bool]; rfl)
  | str _ => (show Option.map _ (L2.kitB "str" "bool") = _; rw [kit_str_bool]; rfl)
  | list _ => (show Option.map _ (L2.kitB "list" "bool") = _; rw [kit_list_bool]; rfl)
  | tuple _ => (show Option.map _ (L2.kitB "tuple" "bool") = _; rw [kit_tuple_bool]; rfl)
  | dict _ => (show Option.map _ (L2.kitB "dict" "bool") = _; rw [kit_dict_bool]; rfl)
@[simp] theorem isInt_i (i : Int) : isInt (.int i) = true := rfl
@[simp] theorem isTup_fr (q : Rat) : isTup (fr q) = true := rfl
@[simp] theorem isTup_sp (p : Rat × Rat) : isTup (sp p) = true := rfl
@[simp] theorem isTup_t (ds : List D) : isTup (.tuple ds) = true := rfl
@[simp] theorem isLst_l (ds : List D) : isLst (.list ds) = true := rfl
theorem ne_nil_any (ds : List D) : dNe (.list ds) (.list []) = some (.val (.bool (!ds.isEmpty))) := by
  by_cases h : SeqAt.shaped (.list ds) = true
  · exact ne_nil_of h
  · cases ds with
    | nil => exact absurd shaped_nil h
    | cons d ds =>
      rw [dNe]
      · rw [if_neg (fun z => h z.1)]
        rfl
      · intro _ _ z; cases z
/-! ### FRACTIONS, SIZES among any values -/
mutual
/-- numbers that are not too long -/
def Sml : D → Prop
  | .int i => i.natAbs < 2 ^ 4000
  | .list xs => Smls xs
  | .tuple xs => Smls xs
  | _ => True
def Smls : List D → Prop
  | [] => True
  | x :: xs => Sml x ∧ Smls xs
end
def frB : D → Bool
  | .tuple [.int a, .int b] => decide (0 < b) && decide (Nat.gcd a.natAbs b.natAbs = 1)
  | _ => false
theorem m_integer_any (d : D) : m__law_integer [d] = some (.ret (.val (.bool (isInt d)))) := by
  simp only [m__law_integer, runM, g__law_integer, List.length_cons, List.length_nil, if_true]
  cases d <;> simp [startE, isIntB, isBool, isInt]
theorem m_is_integer_any (d : D) : m_is_integer [d] = some (.ret (.val (.bool (isInt d)))) := by
  simp only [m_is_integer, runM, g_is_integer, List.length_cons, List.length_nil, if_true]
  cases d <;> simp [startE, isIntB, isBool, isInt]
theorem isInt_of {x : D} (h : isInt x = true) : ∃ i, x = .int i := by
  cases x <;> first | exact ⟨_, rfl⟩ | cases h
/-- the length of a tuple -/
def tlen : D → Int
  | .tuple xs => xs.length
  | _ => 0
theorem m_tuple_of_any (e : D) (n : Int) : m_is_tuple_of [e, .int n] = some (.ret (.val (.bool (isTup e && decide (tlen e = n))))) := by
  simp only [m_is_tuple_of, runM, g_is_tuple_of, List.length_cons, List.length_nil, if_true]
  cases e <;> simp [startE, isTup, tlen]
  exact decide_eq_decide.mpr Iff.rfl
end Fr

namespace Fr
open PySem Mv Sh

/-- a fraction from 0 on -/
def nnB : D → Bool
  | .tuple [.int a, .int b] => frB (.tuple [.int a, .int b]) && decide (0 ≤ a)
  | _ => false
def szB (n : Nat) : D → Bool
  | .tuple ds => decide (ds.length = n) && ds.all nnB
  | _ => false
theorem bools_map (bs : List Bool) : boolsOf (bs.map PyData.bool) = some bs := by
  induction bs with
  | nil => rfl
  | cons b bs ih =>
    show (boolsOf (bs.map PyData.bool)).map (b :: ·) = _
    rw [ih]
    rfl
theorem all_of {α : Type} (p : α → Bool) (xs : List α) : dAll [.list (xs.map fun x => .bool (p x))] = some (.val (.bool (xs.all p))) := by
  show (boolsOf (xs.map fun x => .bool (p x))).map _ = _
  have e : (xs.map fun x => PyData.bool (p x)) = (xs.map p).map PyData.bool := by rw [List.map_map]; rfl
  rw [e, bools_map]
  simp [List.all_map]
end Fr

namespace Fr
open PySem Mv Sh

/-! ### sums of fractions of unlike dens -/
def Bn (B : Nat) (q : Rat) : Prop := q.num.natAbs ≤ 2 ^ B ∧ q.den ≤ 2 ^ B
theorem Bn.mono {B B' : Nat} {q : Rat} (h : Bn B q) (le : B ≤ B') : Bn B' q := ⟨Nat.le_trans h.1 (Nat.pow_le_pow_right (by decide) le), Nat.le_trans h.2 (Nat.pow_le_pow_right (by decide) le)⟩
theorem Bn.bq {B : Nat} {q : Rat} (h : Bn B q) (hB : B < 4000) : Bq q := ⟨Nat.lt_of_le_of_lt h.1 (Nat.pow_lt_pow_right (by decide) hB), Nat.lt_of_le_of_lt h.2 (Nat.pow_lt_pow_right (by decide) hB)⟩
theorem Bn.own {B : Nat} {q : Rat} (h : Bn B q) : Fx q.den (2 ^ B) q := ⟨q.num, h.1, (Rat.num_divInt_den q).symm⟩
theorem Bn.of_fx {N M B : Nat} {q : Rat} (h : Fx N M q) (n0 : 0 < N) (hN : N ≤ 2 ^ B) (hM : M ≤ 2 ^ B) : Bn B q := ⟨Nat.le_trans (h.num n0).1 hM, Nat.le_trans (h.num n0).2 hN⟩
/-- a sum of k such -/
structure Sm (B k : Nat) (x : Rat) : Prop where
  ex : ∃ D A : Nat, 0 < D ∧ Fx D A x ∧ D ≤ 2 ^ (B * k) ∧ A ≤ k * 2 ^ (B * k)
theorem Sm.zero {B : Nat} : Sm B 0 0 := ⟨⟨1, 0, by decide, Fx.zero, Nat.one_le_two_pow, by omega⟩⟩
theorem Sm.add {B k : Nat} {x q : Rat} (h : Sm B k x) (hq : Bn B q) : Sm B (k + 1) (x + q) := by
  obtain ⟨D, A, d0, f, dl, al⟩ := h.ex
  have q0 := q.den_pos
  have f1 : Fx (D * q.den) (A * q.den) x := f.fine q.den q0
  have f2 : Fx (D * q.den) (2 ^ B * D) q := by
    have := hq.own.fine D d0
    rwa [Nat.mul_comm q.den D] at this
  have e : 2 ^ (B * (k + 1)) = 2 ^ (B * k) * 2 ^ B := by rw [← Nat.pow_add]; congr 1
  refine ⟨⟨D * q.den, A * q.den + 2 ^ B * D, Nat.mul_pos d0 q0, f1.add f2, ?_, ?_⟩⟩
  · rw [e]
    exact Nat.mul_le_mul dl hq.2
  · rw [e, Nat.succ_mul]
    refine Nat.add_le_add ?_ ?_
    · rw [← Nat.mul_assoc]
      exact Nat.mul_le_mul al hq.2
    · rw [Nat.mul_comm (2 ^ B)]
      exact Nat.mul_le_mul_right _ dl
theorem Sm.bn {B k : Nat} {x : Rat} (h : Sm B k x) : Bn (B * k + k) x := by
  obtain ⟨D, A, d0, f, dl, al⟩ := h.ex
  have hk : k ≤ 2 ^ k := Nat.le_of_lt Nat.lt_two_pow_self
  refine Bn.of_fx f d0 (Nat.le_trans dl (Nat.pow_le_pow_right (by decide) (by omega))) (Nat.le_trans al ?_)
  rw [Nat.pow_add, Nat.mul_comm]
  exact Nat.mul_le_mul_left _ hk
/-! ### heaps of any value -/
end Fr

namespace Fr
open PySem Mv Sh

section
variable (f g h : M Sl) (s : Sl) (es : List Sl) (o o2 : D → D → Option Sl)
@[simp] theorem e_chain : vChain o o2 f g h (s :: es) = (vD f (s :: es)).bind fun x e => (vD g e).bind fun y e2 => match o x y with
  | some (.val (.bool true)) => (vD h e2).bind fun z e3 => opt (o2 y z) e3
  | some (.val (.bool false)) => .ok (.val (.bool false)) e2
  | _ => .bad := rfl
end
@[simp] theorem e_lcv (i : Nat) (mode : List D → List D) (pat : D → En → Option En) (tt : M Bool) (el : M Sl) (vs : List Nat) (s : Sl) (es : List Sl) : vLcv i mode pat tt el vs (s :: es) = match (s :: es)[i]? with
  | some (.own false xs) => lcvR i xs (vLc (fun e => .ok (mode xs) e) pat tt el vs ((s :: es).set i .no))
  | some (.val d) => match seqOf d with
    | some xs => vLc (fun e => .ok (mode xs) e) pat tt el vs (s :: es)
    | none => .bad
  | _ => .bad := rfl
section
variable {B : Nat} {qs : List Rat} {hs : List Int}
end
end Fr

namespace Fr
open PySem Mv Sh

section
variable {B : Nat} {qs : List Rat} {hs : List Int}
end
end Fr

namespace Fr
open PySem Mv Sh

/-! ### courses of any value -/
def toQ : D → Rat
  | .tuple [.int a, .int b] => Rat.divInt a b
  | _ => 0
def toQs : D → List Rat
  | .tuple ds => ds.map toQ
  | _ => []
structure Crs (C M : Nat) (N : Net) (ds : List D) : Prop where
  len : ds.length ≤ 400
  sml : ∀ x ∈ ds, Sml x
  few : ∀ x ∈ ds, ∀ es, x = .tuple es → es.length ≤ 1000
  szs : ∀ x ∈ ds, szB N.many x = true → SzOk C M N.many (toQs x)
section
variable {C M : Nat} {N : Net} {ds : List D}
end
end Fr

namespace Fr
open PySem Mv Sh

/-! ### closings of any value -/
mutual
/-- numbers below W, at most L items anywhere -/
def Vd (W L : Nat) : D → Prop
  | .int i => i.natAbs < W
  | .list xs => xs.length ≤ L ∧ Vds W L xs
  | .tuple xs => xs.length ≤ L ∧ Vds W L xs
  | _ => True
def Vds (W L : Nat) : List D → Prop
  | [] => True
  | x :: xs => Vd W L x ∧ Vds W L xs
end
theorem vds_iff {W L : Nat} : ∀ {xs : List D}, Vds W L xs ↔ ∀ x ∈ xs, Vd W L x
  | [] => by simp [Vds]
  | x :: xs => by simp [Vds, vds_iff (xs := xs)]
mutual
theorem Vd.mono {W L W' L' : Nat} (hw : W ≤ W') (hl : L ≤ L') : ∀ {d : D}, Vd W L d → Vd W' L' d
  | .int _, h => Nat.lt_of_lt_of_le h hw
  | .list _, h => ⟨Nat.le_trans h.1 hl, Vds.mono hw hl h.2⟩
  | .tuple _, h => ⟨Nat.le_trans h.1 hl, Vds.mono hw hl h.2⟩
  | .none, _ => trivial
  | .bool _, _ => trivial
  | .str _, _ => trivial
  | .dict _, _ => trivial
theorem Vds.mono {W L W' L' : Nat} (hw : W ≤ W') (hl : L ≤ L') : ∀ {ds : List D}, Vds W L ds → Vds W' L' ds
  | [], _ => trivial
  | _ :: _, h => ⟨Vd.mono hw hl h.1, Vds.mono hw hl h.2⟩
theorem Vd.sml {W L : Nat} (hw : W ≤ 2 ^ 4000) : ∀ {d : D}, Vd W L d → Sml d
  | .int _, h => Nat.lt_of_lt_of_le h hw
  | .list _, h => Vds.sml hw h.2
  | .tuple _, h => Vds.sml hw h.2
  | .none, _ => trivial
  | .bool _, _ => trivial
  | .str _, _ => trivial
  | .dict _, _ => trivial
theorem Vds.sml {W L : Nat} (hw : W ≤ 2 ^ 4000) : ∀ {ds : List D}, Vds W L ds → Smls ds
  | [], _ => trivial
  | _ :: _, h => ⟨Vd.sml hw h.1, Vds.sml hw h.2⟩
end
section
variable {ss : List (Rat × Rat)} {L : Nat}
end
end Fr

namespace Fr
open PySem Mv Sh

/-! ### odd values, bent ones -/
def odds : List D := [.none, .bool true, .bool false, .int 0, .int 1, .int (-1), .int 2, .int 1000000000000000000000000000000000000000, .str ⟨#[]⟩, .str ⟨#[48]⟩, .str ⟨#[97, 98]⟩, .tuple [], .list [], .dict [], .tuple [.int 0], .tuple [.int 1, .int 1], .tuple [.int 0, .int 1], .list [.int 0, .int 1], .tuple [.int 1, .int 0], .tuple [.int 2, .int 4],
  .tuple [.bool true, .int 1], .tuple [.int 0, .int 1, .int 1], .tuple [.tuple [.int 0, .int 1, .int 1]], .tuple [.int 0, .int 0], .dict [(.str ⟨#[97]⟩, .int 1)], .tuple [.tuple [], .tuple [.int 0, .int 0]], .tuple [.int 1, .tuple []], .tuple [.int 0, .tuple []], .tuple [.int (-1), .tuple []]]
theorem odds_ok : ∀ d ∈ odds, Vd (2 ^ 130) 3 d := fun d hd => by
  simp only [odds, List.mem_cons, List.not_mem_nil, or_false] at hd
  rcases hd with rfl | rfl | rfl | rfl | rfl | rfl | rfl | rfl | rfl | rfl | rfl | rfl | rfl | rfl | rfl | rfl | rfl | rfl | rfl | rfl | rfl | rfl | rfl | rfl | rfl | rfl | rfl | rfl | rfl <;> simp [Vd, Vds]
theorem pow39 : dPow (.int 10) (.int 39) = some (.val (.int 1000000000000000000000000000000000000000)) := by
  simp [dPow]
theorem odd_ok {xs : List D} (hb : BagOk xs) : ∃ d ys, m__law_odd xs [] = some (.ret (.val d), ys) ∧ BagOk ys ∧ Vd (2 ^ 130) 3 d := by
  obtain ⟨d, ys, e, hd, B⟩ := one_list hb (ds := odds) (by simp [odds]) (by simp [odds])
  refine ⟨d, ys, ?_, B, odds_ok d hd⟩
  have p := pow39
  have ka : keyD (.inr ⟨#[97]⟩) = .str ⟨#[97]⟩ := rfl
  unfold odds at e
  simp only [m__law_odd, runB, g__law_odd, List.length_cons, List.length_nil, if_true]
  simp [startE, lim_is, p, ka, e]
theorem eq_tup_nil {ds : List D} (h : SeqAt.shaped (.tuple ds) = true) : dEq (.tuple ds) (.tuple []) = some (.val (.bool ds.isEmpty)) := by
  have h0 : SeqAt.shaped (.tuple []) = true := by simp [SeqAt.shaped, PyData.canLay0, PyData.canLayAll0, PyData.depth, PyData.depthAll]
  rw [dEq]
  · rw [if_pos ⟨h, h0⟩]
    cases ds <;> simp [PyData.eqv, PyData.eqvAll]
  · intro _ _ h; cases h
theorem add_t2 {a b : List D} (h : a.length + b.length ≤ 1000000) : dAdd (.tuple a) (.tuple b) = some (.val (.tuple (a ++ b))) := by
  rw [add_tuples, lim_is, if_pos h]
theorem cut_hi2 (xs : List D) (n : Nat) : cutD xs none (some (n : Int)) = xs.take n := by
  unfold cutD
  rw [HT.sIx_none, show HT.sIx xs.length xs.length (some (n : Int)) = min n xs.length from HT.sIx_nat _ _ n]
  rw [List.drop_zero, Nat.sub_zero, List.take_eq_take_iff]
  omega
theorem cut_lo0 (xs : List D) (n : Nat) : cutD xs (some (n : Int)) none = xs.drop n := by
  by_cases h : n ≤ xs.length
  · exact cut_drop xs (n := n) h
  · unfold cutD
    rw [HT.sIx_none, show HT.sIx xs.length 0 (some (n : Int)) = min n xs.length from HT.sIx_nat _ _ n, Nat.min_eq_right (by omega), Nat.sub_self, List.take_zero, List.drop_eq_nil_of_le (by omega)]
theorem cut_lo2 (xs : List D) (n : Nat) : cutD xs (some ((n : Int) + 1)) none = xs.drop (n + 1) := cut_lo0 xs (n + 1)
/-- a result, frozen -/
def Frz (s : Sl) (d : D) : Prop := s = .val d ∨ ∃ l, s = .own false l ∧ d = .list l
theorem frz_vd {s : Sl} {d : D} (h : Frz s d) (e : En) : frzS s e = .ok d e := by
  rcases h with rfl | ⟨l, rfl, rfl⟩ <;> rfl
theorem bent_ok {W L : Nat} (hW : 2 ^ 130 ≤ W) (hW2 : W ≤ 2 ^ 1000) (hL : 4 ≤ L) (hL2 : L ≤ 1000) : ∀ (dep deep : Nat) {xs : List D} {d : D}, BagOk xs → deep < dep → Vd W L d → plain d → d.depth ≤ 60 →
    ∃ s d' ys, r__law_bent dep xs [d, .int (deep : Int)] = some (.ret s, ys) ∧ BagOk ys ∧ Frz s d' ∧ Vd (W + 1) (L + 1) d'
  | 0, _, _, _, _, h, _, _, _ => by omega
  | dep + 1, deep, xs, d, hb, hdd, hd, hp, hdp => by
    have odd : ∀ {zs : List D}, BagOk zs → ∃ d' ys, m__law_odd zs [] = some (.ret (.val d'), ys) ∧ BagOk ys ∧ Vd (W + 1) (L + 1) d' := fun B => by
      obtain ⟨d', ys, h1, h2, h3⟩ := odd_ok B
      exact ⟨d', ys, h1, h2, h3.mono (by omega) (by omega)⟩
    have int_no := m_integer_any d
    by_cases hi : isInt d = true
    · obtain ⟨i, rfl⟩ := isInt_of hi
      obtain ⟨v, y1, e1, v0, v1, B1⟩ := take_ok hb (many := 2) (by decide) (by decide)
      by_cases hv : v = 0
      · have hi2 : i.natAbs < W := hd
        have hlog : i.natAbs.log2 < 1920 := log2_lt (by decide) (up (k := 1000) (by omega) (by decide))
        obtain ⟨t, ht⟩ : ∃ t : Str, t = toString i := ⟨_, rfl⟩
        obtain ⟨x, y2, e2, hx, B2⟩ := one_list B1 (ds := [.int (i + 1), .int (-i), .int (i - 1), .bool (i != 0), .str t]) (by simp) (by simp)
        refine ⟨.val x, x, y2, ?_, B2, .inl rfl, ?_⟩
        · simp only [r__law_bent, runB, g__law_bent, List.length_cons, List.length_nil, if_true]
          have ds : dStr [.int i] = some (.val (.str t)) := by
            rw [ht]
            show (if i.natAbs.log2 < 1920 then _ else _) = _
            rw [if_pos hlog]
          simp [startE, lim_is, isTup, int_no, e1, hv, ds, e2]
        · simp only [List.mem_cons, List.not_mem_nil, or_false] at hx
          rcases hx with rfl | rfl | rfl | rfl | rfl
          · show (i + 1).natAbs < W + 1; omega
          · show (-i).natAbs < W + 1; omega
          · show (i - 1).natAbs < W + 1; omega
          · trivial
          · trivial
      · obtain ⟨d', y2, e2, B2, v2⟩ := odd B1
        refine ⟨.val d', d', y2, ?_, B2, .inl rfl, v2⟩
        simp only [r__law_bent, runB, g__law_bent, List.length_cons, List.length_nil, if_true]
        simp [startE, lim_is, isTup, int_no, e1, hv, e2]
    · have hi : isInt d = false := by simpa using hi
      rw [hi] at int_no
      by_cases ht : isTup d = true
      · obtain ⟨ds, rfl⟩ : ∃ ds, d = .tuple ds := by
          cases d <;> first | exact ⟨_, rfl⟩ | cases ht
        have sh : SeqAt.shaped (.tuple ds) = true := by
          have := (plain_ok _ hp).2.2
          show (_ && decide _) = true
          rw [this, decide_eq_true (by omega)]
          rfl
        have eqn := eq_tup_nil sh
        obtain ⟨hl, hds⟩ := hd
        have hds := vds_iff.mp hds
        by_cases hstop : ds.isEmpty = true ∨ deep = 0
        · obtain ⟨d', y2, e2, B2, v2⟩ := odd hb
          refine ⟨.val d', d', y2, ?_, B2, .inl rfl, v2⟩
          simp only [r__law_bent, runB, g__law_bent, List.length_cons, List.length_nil, if_true]
          by_cases he : ds.isEmpty = true
          · rw [he] at eqn
            simp [startE, lim_is, eqn, int_no, e2]
          · have he : ds.isEmpty = false := by simpa using he
            have h0 := hstop.resolve_left (by rw [he]; exact Bool.false_ne_true)
            subst h0
            rw [he] at eqn
            simp [startE, lim_is, eqn, int_no, e2]
        · have he : ds.isEmpty = false := by
            cases h : ds.isEmpty with
            | true => exact absurd (.inl h) hstop
            | false => rfl
          have hd0 : deep ≠ 0 := fun z => hstop (.inr z)
          have hdi : ¬ (deep : Int) = 0 := by omega
          rw [he] at eqn
          have dpos : 0 < ds.length := by
            cases ds with
            | nil => cases he
            | cons _ _ => simp
          obtain ⟨w, y1, e1, w0, w1, B1⟩ := take_ok hb (many := 9) (by decide) (by decide)
          obtain ⟨t, y2, e2, t0, t1, B2⟩ := take_ok B1 (many := (ds.length : Int)) (by omega) (by omega)
          obtain ⟨k, rfl⟩ : ∃ k : Nat, t = (k : Int) := ⟨t.toNat, by omega⟩
          have hk : k < ds.length := by omega
          have c1 := cut_hi2 ds k
          have c2 := cut_lo2 ds k
          have c3 := cut_lo0 ds k
          have mk : min k ds.length ≤ 1000 := by omega
          have up1 : ∀ d ∈ ds, Vd (W + 1) (L + 1) d := fun d hd => (hds d hd).mono (by omega) (by omega)
          by_cases q0 : w = 0
          · refine ⟨.own false ds, .list ds, y2, ?_, B2, .inr ⟨ds, rfl, rfl⟩, by omega, vds_iff.mpr up1⟩
            simp only [r__law_bent, runB, g__law_bent, List.length_cons, List.length_nil, if_true]
            simp [startE, lim_is, eqn, hd0, e1, e2, q0]
          · by_cases q1 : w = 1
            · subst q1
              have a1 := add_t2 (a := ds.take k) (b := ds.drop (k + 1)) (by rw [List.length_take, List.length_drop]; omega)
              refine ⟨.val (.tuple (ds.take k ++ ds.drop (k + 1))), _, y2, ?_, B2, .inl rfl, ?_, vds_iff.mpr fun d hd => ?_⟩
              · simp only [r__law_bent, runB, g__law_bent, List.length_cons, List.length_nil, if_true]
                simp [startE, lim_is, eqn, hd0, e1, e2, c1, c2, a1, -add_tuples]
              · rw [List.length_append, List.length_take, List.length_drop]; omega
              · rcases List.mem_append.mp hd with hd | hd
                · exact up1 d (List.mem_of_mem_take hd)
                · exact up1 d (List.mem_of_mem_drop hd)
            · by_cases q2 : w = 2
              · subst q2
                obtain ⟨o, y3, e3, B3, vo⟩ := odd B2
                have a1 := add_t2 (a := ds.take k) (b := [o]) (by rw [List.length_take, List.length_singleton]; omega)
                have a2 := add_t2 (a := ds.take k ++ [o]) (b := ds.drop k) (by rw [List.length_append, List.length_take, List.length_drop, List.length_singleton]; omega)
                refine ⟨.val (.tuple (ds.take k ++ [o] ++ ds.drop k)), _, y3, ?_, B3, .inl rfl, ?_, vds_iff.mpr fun d hd => ?_⟩
                · simp only [List.append_assoc, List.singleton_append] at a2 ⊢
                  simp only [r__law_bent, runB, g__law_bent, List.length_cons, List.length_nil, if_true]
                  simp [startE, lim_is, eqn, hd0, e1, e2, e3, c1, c3, a1, a2, -add_tuples]
                · rw [List.length_append, List.length_append, List.length_take, List.length_drop, List.length_singleton]; omega
                · rcases List.mem_append.mp hd with hd | hd
                  · rcases List.mem_append.mp hd with hd | hd
                    · exact up1 d (List.mem_of_mem_take hd)
                    · rw [List.mem_singleton.mp hd]; exact vo
                  · exact up1 d (List.mem_of_mem_drop hd)
              · by_cases q3 : w = 3
                · subst q3
                  refine ⟨.val (.tuple ds.reverse), _, y2, ?_, B2, .inl rfl, by rw [List.length_reverse]; omega, vds_iff.mpr fun d hd => up1 d (List.mem_reverse.mp hd)⟩
                  simp only [r__law_bent, runB, g__law_bent, List.length_cons, List.length_nil, if_true]
                  simp [startE, lim_is, eqn, hd0, e1, e2]
                · obtain ⟨x, hx, xm⟩ : ∃ x, L2.atI ds (k : Int) = some x ∧ x ∈ ds := at_mem (by omega) (by omega)
                  have px : plain x := by
                    have : ∀ ds : List D, plains ds → ∀ x ∈ ds, plain x := by
                      intro ds
                      induction ds with
                      | nil => intro _ x hx; cases hx
                      | cons y ys ih =>
                        intro h x hx
                        rcases List.mem_cons.mp hx with
                                                                                                                                      rfl | hx
                        · exact h.1
                        · exact ih h.2 x hx
                    exact this ds hp x xm
                  have dx : x.depth ≤ 60 := by
                    have : ∀ ds : List D, ∀ x ∈ ds, x.depth ≤ PyData.depthAll ds := by
                      intro ds
                      induction ds with
                      | nil => intro x hx; cases hx
                      | cons y ys ih =>
                        intro x hx
                        simp only [PyData.depthAll]
                        rcases List.mem_cons.mp hx with
                                                                                                                                      rfl | hx
                        · omega
                        · have := ih x hx; omega
                    have := this ds x xm
                    simp only [PyData.depth] at hdp
                    omega
                  obtain ⟨s, d', y3, e3, B3, fz, vd⟩ := bent_ok hW hW2 hL hL2 dep (deep - 1) (d := x) B2 (by omega) (hds x xm) px dx
                  have ed : (deep : Int) - 1 = ((deep - 1 : Nat) : Int) := by omega
                  have fzz := frz_vd fz
                  have a1 := add_t2 (a := ds.take k) (b := [d']) (by rw [List.length_take, List.length_singleton]; omega)
                  have a2 := add_t2 (a := ds.take k ++ [d']) (b := ds.drop (k + 1)) (by rw [List.length_append, List.length_take, List.length_drop, List.length_singleton]; omega)
                  refine ⟨.val (.tuple (ds.take k ++ [d'] ++ ds.drop (k + 1))), _, y3, ?_, B3, .inl rfl, ?_, vds_iff.mpr fun d hd => ?_⟩
                  · simp only [List.append_assoc, List.singleton_append] at a2 ⊢
                    simp only [r__law_bent, runB, g__law_bent, List.length_cons, List.length_nil, if_true]
                    simp [startE, lim_is, eqn, hd0, e1, e2, q0, q1, q2, q3, hx, ed, e3, fzz, c1, c2, a1, a2, -add_tuples]
                  · rw [List.length_append, List.length_append, List.length_take, List.length_drop, List.length_singleton]; omega
                  · rcases List.mem_append.mp hd with hd | hd
                    · rcases List.mem_append.mp hd with hd | hd
                      · exact up1 d (List.mem_of_mem_take hd)
                      · rw [List.mem_singleton.mp hd]; exact vd
                    · exact up1 d (List.mem_of_mem_drop hd)
      · have ht : isTup d = false := by simpa using ht
        obtain ⟨d', y2, e2, B2, v2⟩ := odd hb
        refine ⟨.val d', d', y2, ?_, B2, .inl rfl, v2⟩
        simp only [r__law_bent, runB, g__law_bent, List.length_cons, List.length_nil, if_true]
        simp [startE, lim_is, ht, int_no, e2]
end Fr

namespace Fr
open PySem Mv Sh

/-! ### unrolling what came later -/
section
variable (f g : M Sl) (gs : M (List D)) (o : D → D → Option Sl) (s : Sl) (es : List Sl) (i j : Nat)
@[simp] theorem e_look {α : Type} (k : D → R α) : vLook i (s :: es) k = match (s :: es)[i]? with
  | some (.val x) => k x
  | some (.own _ xs) => k (.list xs)
  | _ => .bad := by
  cases h : (s :: es)[i]? with
  | none => simp only [vLook, agOf, h]
  | some r => cases r <;> simp only [vLook, agOf, h]
@[simp] theorem e_opL : vOpL i o f (s :: es) = vLook i (s :: es) fun _ => (vD f (s :: es)).bind fun y e => vLook i e fun x => lendO (o x y) e := rfl
@[simp] theorem e_opR : vOpR o f i (s :: es) = (vD f (s :: es)).bind fun x e => vLook i e fun y => lendO (o x y) e := rfl
@[simp] theorem e_callB2 (m : List D → List D → Option (D × List D × List D)) : vCallB2 i j m (s :: es) = match ((s :: es)[i]? : Option Sl), ((s :: es)[j]? : Option Sl) with
  | some (.own b xs), some (.own b2 zs) => (match m xs zs with
    | some (d, ys, zs') => if i ≠ j then .ok (.val d) (((s :: es).set i (.own b ys)).set j (.own b2 zs')) else .bad
    | none => .bad)
  | _, _ => .bad := rfl
@[simp] theorem e_listR : vListR f (s :: es) = (vD f (s :: es)).bind fun d e => match d with
  | .int n => if n.natAbs ≤ LIM then .ok (.own false (rngD 0 n.toNat)) e else .bad
  | _ => .bad := rfl
@[simp] theorem e_listR2 : vListR2 f g (s :: es) = (vD f (s :: es)).bind fun c e => (vD g e).bind fun d e2 => match c, d with
  | .int m, .int n => if m.natAbs ≤ LIM ∧ n.natAbs ≤ LIM then .ok (.own false (rngD m (n - m).toNat)) e2 else .bad
  | _, _ => .bad := rfl
@[simp] theorem e_tupR : vTupR f (s :: es) = (vD f (s :: es)).bind fun d e => match d with
  | .int n => if n.natAbs ≤ LIM then .ok (.val (.tuple (rngD 0 n.toNat))) e else .bad
  | _ => .bad := rfl
@[simp] theorem e_sortSet : vSortSet f (s :: es) = (vD f (s :: es)).bind fun d e => match d with
  | .list ds => match intsOf ds with
    | some ns => if ns.length < 64 then .ok (.own false ((sortSet ns).map PyData.int)) e else .bad
    | none => .bad
  | _ => .bad := rfl
@[simp] theorem e_pop : vPop i gs (s :: es) = if isOwnB (s :: es) i = true then (gs (s :: es)).bind fun ks e => match ks with
    | [k] => popAt i k e
    | _ => .bad
  else .bad := rfl
@[simp] theorem e_parT (ms : List (D → MS)) : sParT ms gs (s :: es) = (gs (s :: es)).bind fun ds e => if ds.length = ms.length ∧ ds.length ≤ 1000 then runT ms ds e else .bad := rfl
end
@[simp] theorem mul2_int (i j : Int) : dMul2 (.int i) (.int j) = if mulOk i j then some (.val (.int (i * j))) else none := rfl
@[simp] theorem mul2_list (xs : List D) (j : D) : dMul2 (.list xs) j = dMul (.list xs) j := rfl
@[simp] theorem mul2_tup (xs : List D) (k : Int) : dMul2 (.tuple xs) (.int k) = if k.natAbs < 1000000 then (if xs = [] ∨ k = 1 then some (.val (.tuple xs)) else if k ≤ 0 then some (.val (.tuple [])) else dMul (.tuple xs) (.int k)) else none := rfl
/-! ### one of an own list -/
/-! ### sorting -/
theorem sorted_l {ds : List D} (h : sortB ds = true) : dSorted [.list ds] = some (.own false (sortD ds)) := if_pos h
theorem sorted_t {ds : List D} (h : sortB ds = true) : dSorted [.tuple ds] = some (.own false (sortD ds)) := if_pos h
theorem sortB_tups {α : Type} {enc : α → D} {bs : List α} (h1 : ∀ b ∈ bs, ∃ x r, enc b = .tuple (x :: r)) (h2 : ∀ b ∈ bs, ∀ b' ∈ bs, PySem.W.alike (enc b) (enc b') = true) (h3 : ∀ b ∈ bs, (enc b).depth ≤ 100) : sortB (bs.map enc) = true := by
  unfold sortB
  simp only [Bool.and_eq_true, Bool.or_eq_true, List.all_eq_true, decide_eq_true_eq]
  refine ⟨⟨fun d hd d' hd' => ?_, .inl fun d hd => ?_⟩, fun d hd => ?_⟩
  · obtain ⟨i, hi, rfl⟩ := List.mem_map.mp hd
    obtain ⟨j, hj, rfl⟩ := List.mem_map.mp hd'
    exact h2 i hi j hj
  · obtain ⟨i, hi, rfl⟩ := List.mem_map.mp hd
    obtain ⟨x, r, e⟩ := h1 i hi
    rw [e]; rfl
  · obtain ⟨i, hi, rfl⟩ := List.mem_map.mp hd
    exact h3 i hi
/-- sorted items of one kind are such items -/
theorem sort_map {α : Type} (enc : α → D) (bs : List α) : sortD (bs.map enc) = (bs.mergeSort fun a b => PySem.W.dataLe false id (enc a) (enc b)).map enc := by
  unfold sortD
  rw [PySem.W.sort_maps enc fun a _ b _ => rfl]
/-! ### sides, rows, tables -/
structure Side where
  j : Int
  lo : Int
  hi : Int
deriving DecidableEq
def sideD (s : Side) : D := .tuple [.int s.j, .int s.lo, .int s.hi]
structure Row where
  sides : List Side
  r0 : Int
  r1 : Int
deriving DecidableEq
def rowD (r : Row) : D := .tuple [.tuple (r.sides.map sideD), prD r.r0 r.r1]
structure Tab where
  n : Nat
  rows : List Row
deriving DecidableEq
def tabD (t : Tab) : D := .tuple [.int t.n, .tuple (t.rows.map rowD)]
structure SideOk (n : Nat) (M : Int) (s : Side) : Prop where
  j0 : 0 ≤ s.j
  j1 : s.j < n
  l0 : 0 ≤ s.lo
  le : s.lo ≤ s.hi
  hi : s.hi ≤ M
structure RowOk (n : Nat) (M : Int) (K : Nat) (r : Row) : Prop where
  all : ∀ s ∈ r.sides, SideOk n M s
  len : r.sides.length ≤ K
  r0 : 0 ≤ r.r0
  le : r.r0 ≤ r.r1
  hi : r.r1 ≤ M
structure TabOk (M : Int) (K R : Nat) (t : Tab) : Prop where
  all : ∀ r ∈ t.rows, RowOk t.n M K r
  len : t.rows.length ≤ R
theorem SideOk.mono {n : Nat} {M M' : Int} {s : Side} (h : SideOk n M s) (hm : M ≤ M') : SideOk n M' s := ⟨h.j0, h.j1, h.l0, h.le, by have := h.hi; omega⟩
theorem RowOk.mono {n : Nat} {M M' : Int} {K K' : Nat} {r : Row} (h : RowOk n M K r) (hm : M ≤ M') (hk : K ≤ K') : RowOk n M' K' r := ⟨fun s hs => (h.all s hs).mono hm, by have := h.len; omega, h.r0, h.le, by have := h.hi; omega⟩
theorem TabOk.mono {M M' : Int} {K K' R R' : Nat} {t : Tab} (h : TabOk M K R t) (hm : M ≤ M') (hk : K ≤ K') (hr : R ≤ R') : TabOk M' K' R' t := ⟨fun r hs => (h.all r hs).mono hm hk, by have := h.len; omega⟩
theorem side_alike (s t : Side) : PySem.W.alike (sideD s) (sideD t) = true := by simp [sideD, PySem.W.alike, PySem.W.alikeAll]
theorem side_depth (s : Side) : (sideD s).depth = 1 := by simp [sideD, PyData.depth, PyData.depthAll]
theorem sortB_sides (ss : List Side) : sortB (ss.map sideD) = true := sortB_tups (fun b _ => ⟨_, _, rfl⟩) (fun b _ b' _ => side_alike b b') (fun b _ => by rw [side_depth]; decide)
def sortS (ss : List Side) : List Side := ss.mergeSort fun a b => PySem.W.dataLe false id (sideD a) (sideD b)
theorem sortD_sides (ss : List Side) : sortD (ss.map sideD) = (sortS ss).map sideD := sort_map sideD ss
theorem sortS_perm (ss : List Side) : (sortS ss).Perm ss := List.mergeSort_perm _ _
theorem depth_map {α : Type} {enc : α → D} {k : Nat} (h : ∀ a, (enc a).depth ≤ k) (bs : List α) : PyData.depthAll (bs.map enc) ≤ k := depths_of fun d hd => by
  obtain ⟨b, _, rfl⟩ :=
                                                                                                                List.mem_map.mp hd
  exact h b
theorem row_depth (r : Row) : (rowD r).depth ≤ 3 := by
  have := depth_map (enc := sideD) (k := 1) (fun a => Nat.le_of_eq (side_depth a)) r.sides
  simp only [rowD, prD, PyData.depth, PyData.depthAll]
  omega
end Fr

namespace Fr
open PySem Mv Sh

/-! ### tables that are drawn -/
theorem ixN_last (n : Nat) : L2.ixN (n + 1) (-1) = some n := by
  unfold L2.ixN
  rw [if_neg (by decide), if_pos (by omega)]
  exact congrArg some
                                                                                                                (by omega)
theorem at_lastD (ds : List D) (d : D) : L2.atI (ds ++ [d]) (-1) = some d := by
  unfold L2.atI
  rw [List.length_append, List.length_singleton, ixN_last]
  simp
end Fr

namespace Fr
open PySem Mv Sh

/-! ### what a row asks of an unknown -/
def mine (r : Row) (j : Int) : List Side := r.sides.filter fun s => decide (s.j = j)
def highOf (r : Row) (j : Int) : Int := ((mine r j).map (·.hi)).sum
def lowOf (r : Row) (j : Int) : Int := ((mine r j).map fun s => s.lo - (highOf r j - s.hi)).foldl max 0
/-- the row is led by j: by the weights w it outweighs the others by the gap -/
def Leads (n : Nat) (w : Nat → Int) (gap : Int) (j : Nat) (r : Row) : Prop := ((((List.range n).filter fun k => decide (k ≠ j)).map fun k : Nat => highOf r k * w k)).sum + gap ≤ lowOf r j * w j

/-- comprehensions that draw, with a test -/
theorem lcL_drawT {α β : Type} {pat : D → En → Option En} {tt : M Bool} {el : M Sl} {vs : List Nat} (a : α → D) (p : α → Bool) (bD : β → D) (P : α → β → Prop) (J : En → Prop) : ∀ (xs : List α), (∀ x ∈ xs, ∀ e, J e → ∃ s es, pat (a x) e = some (s :: es) ∧ tt (s :: es) = .ok (p x) (s :: es) ∧ (p x = false → J (wipeE (s :: es) vs)) ∧ (p x = true → ∃ y e3, vD el (s :: es) = .ok (bD y) e3 ∧ P x y ∧ J (wipeE e3 vs))) → ∀ e, J e →
    ∃ (zs : List (α × β)) (e' : En), lcL pat tt el vs (xs.map a) e = .ok (zs.map fun z => bD z.2) e' ∧ zs.map (·.1) = xs.filter p ∧ (∀ z ∈ zs, P z.1 z.2) ∧ J e'
  | [], _, e, j => ⟨[], e, rfl, rfl, fun _ h => (List.not_mem_nil h).elim, j⟩
  | x :: xs, h, e, j => by
    obtain ⟨s, es, h1, h2, h3, h4⟩ := h x List.mem_cons_self e j
    cases hp : p x with
    | true =>
      obtain ⟨y, e3, g1, g2, g3⟩ := h4 hp
      obtain ⟨zs, e', h5, h6, h7, h8⟩ := lcL_drawT a p bD P J xs (fun z hz => h z (List.mem_cons_of_mem _ hz)) _ g3
      rw [hp] at h2
      exact ⟨(x, y) :: zs, e', lcL_yes h1 h2 g1 h5, by rw [List.map_cons, h6, List.filter_cons_of_pos (by simpa using hp)], fun z hz => by
        rcases List.mem_cons.mp hz with
                                                                                                                      rfl | hz
        · exact g2
        · exact h7 z hz, h8⟩
    | false =>
      obtain ⟨zs, e', h5, h6, h7, h8⟩ := lcL_drawT a p bD P J xs (fun z hz => h z (List.mem_cons_of_mem _ hz)) _ (h3 hp)
      rw [hp] at h2
      exact ⟨zs, e', lcL_no h1 h2 h5, by rw [h6, List.filter_cons_of_neg (by simp [hp])], h7, h8⟩
end Fr

namespace Fr
open PySem Mv Sh

/-! ### heavy tables -/
abbrev Ot := Nat × Int
def otD (o : Ot) : D := .tuple [.int o.1, .int o.2]
theorem ceil_div {need w : Int} (h0 : 0 ≤ need) (h1 : 1 ≤ w) (h3 : w ≤ 3) : need ≤ (need + w - 1).fdiv w * w ∧ 0 ≤ (need + w - 1).fdiv w ∧ (need + w - 1).fdiv w ≤ need := by
  have hw : w = 1 ∨ w = 2 ∨ w = 3 := by omega
  rw [Int.fdiv_eq_ediv_of_nonneg _ (by omega)]
  rcases hw with rfl | rfl | rfl <;> omega
end Fr

namespace Fr
open PySem Mv Sh

/-! ### heavy tables: the walk -/
def wt (ws : List Int) (k : Nat) : Int := ws.getD k 1
structure WtOk (n : Nat) (ws : List Int) : Prop where
  len : ws.length = n
  all : ∀ w ∈ ws, 1 ≤ w ∧ w ≤ 3
theorem WtOk.at {n : Nat} {ws : List Int} (h : WtOk n ws) (k : Nat) : 1 ≤ wt ws k ∧ wt ws k ≤ 3 := by
  unfold wt
  rw [(List.getD_eq_getElem?_getD)]
  cases q : ws[k]? with
  | none => exact ⟨by decide, by decide⟩
  | some w => exact h.all w (List.mem_of_getElem? q)
theorem WtOk.get {n : Nat} {ws : List Int} (h : WtOk n ws) {k : Nat} (hk : k < n) : L2.atI (ws.map PyData.int) (k : Int) = some (.int (wt ws k)) := by
  have hk' : k < ws.length := by rw [h.len]; exact hk
  unfold L2.atI wt
  rw [List.length_map, ix_nat hk', List.getD_eq_getElem?_getD, List.getElem?_eq_getElem hk']
  simp [hk']
section
variable {n : Nat} {ws : List Int} {gap : Int} {j : Nat}
abbrev hv (ys ws : List D) (n : Nat) (s2 s3 : Sl) (found : List D) (s6 s7 s8 s9 s10 s11 s12 s13 s14 : Sl) : En := [.own true ys, .val (.int n), s2, s3, .own false ws, .own false found, s6, s7, s8, s9, s10, s11, s12, s13, s14]
theorem hs1 {ys found : List D} (B : BagOk ys) (hj : j < n) (hn : n ≤ 100) (s2 s3 s6 s8 s9 s10 s11 s12 : Sl) (h8 : s8 = .no ∨ ∃ d, s8 = .val d) : ∃ (os : List Ot) (y1 : List D), s1__law_heavy_table 0 (hv ys (ws.map PyData.int) n s2 s3 found s6 (.val (.int j)) s8 s9 s10 s11 s12 .no .no) =
    .ok .nx (hv y1 (ws.map PyData.int) n s2 s3 found s6 (.val (.int j)) (.own false (os.map otD)) s9 s10 s11 s12 .no .no) ∧ BagOk y1 ∧ os.map (·.1) = ((List.range n).filter fun k => decide (k ≠ j)) ∧ ∀ o ∈ os, 0 ≤ o.2 ∧ o.2 ≤ 3 := by
  obtain ⟨zs, e', h1, h2, h3, y1, rfl, B1⟩ := lcL_drawT (pat := pNm 13) (tt := t1__law_heavy_table 0) (el := e2__law_heavy_table 0) (vs := [13]) (fun k : Nat => PyData.int (k : Int)) (fun k => decide (k ≠ j)) otD (fun k o => o.1 = k ∧ 0 ≤ o.2 ∧ o.2 ≤ 3)
    (fun e => ∃ ys, e = hv ys (ws.map PyData.int) n s2 s3 found s6 (.val (.int j)) s8 s9 s10 s11 s12 .no .no ∧ BagOk ys) (List.range n) (fun k hk e ⟨ys, he, B⟩ => by
      subst he
      refine ⟨_, _, rfl, by simp [t1__law_heavy_table, Int.ofNat_inj], fun _ => ⟨ys, rfl, B⟩, fun hp => ?_⟩
      obtain ⟨d, y1, e1, hd, B1⟩ := one_list B (ds := [.int 0, .int 1, .int 0, .int 2, .int 3]) (by simp) (by simp)
      obtain ⟨h, rfl, h0, h1⟩ : ∃ h : Int, d = .int h ∧ 0 ≤ h ∧ h ≤ 3 := by
        simp only [List.mem_cons, List.not_mem_nil, or_false] at hd
        rcases hd with rfl | rfl | rfl | rfl | rfl
        · exact ⟨0, rfl, by decide, by decide⟩
        · exact ⟨1, rfl, by decide, by decide⟩
        · exact ⟨0, rfl, by decide, by decide⟩
        · exact ⟨2, rfl, by decide, by decide⟩
        · exact ⟨3, rfl, by decide, by decide⟩
      refine ⟨(k, h), hv y1 (ws.map PyData.int) n s2 s3 found s6 (.val (.int j)) s8 s9 s10 s11 s12 (.val (.int k)) .no, ?_, ⟨rfl, h0, h1⟩, y1, rfl, B1⟩
      simp [e2__law_heavy_table, lim_is, e1, otD, hv]) _ ⟨ys, rfl, B⟩
  have rng : ∀ e, rngR [.int (n : Int)] e = .ok (rngD 0 n) e := rng_nat (by omega)
  rw [← rng_map] at h1
  have hl : (rngD 0 n).length ≤ 1000000 := by rw [rng_len]; omega
  refine ⟨zs.map (·.2), y1, ?_, B1, ?_, fun o ho => ?_⟩
  · rw [List.map_map]
    rcases h8 with rfl | ⟨d8, rfl⟩ <;> (simp [s1__law_heavy_table, hv, rng]; simp only [hv] at h1; simp [h1, noOwn, wipeE, backE, lim_is, hl])
  · rw [List.map_map, ← h2]
    exact List.map_congr_left fun z hz => (h3 z hz).1
  · obtain ⟨z, hz, rfl⟩ := List.mem_map.mp ho
    exact (h3 z hz).2
theorem fd3 {a w : Int} (h1 : 1 ≤ w) (h3 : w ≤ 3) : dFdiv (.int a) (.int w) = some (.val (.int (a.fdiv w))) := by
  have hw : w = 1 ∨ w = 2 ∨ w = 3 := by omega
  rw [dFdiv_int, if_pos]
  rcases hw with rfl | rfl | rfl <;> exact ⟨by decide, by decide⟩
end
end Fr

namespace Fr
open PySem Mv Sh

/-! ### heavy tables: the whole -/
/-- each unknown has a row of its own that it leads -/
structure Heavy (gap : Int) (t : Tab) : Prop where
  ex : ∃ (w : Nat → Int) (hs extra : List Row), (∀ k, 1 ≤ w k ∧ w k ≤ 3) ∧ hs.length = t.n ∧ t.rows.Perm (hs ++ extra) ∧ ∀ (j : Nat) (h : Row), hs[j]? = some h → Leads t.n w gap j h
abbrev Pr := Nat × Row
end Fr

namespace Fr
open PySem Mv Sh

/-! ### any table -/
theorem one_ints {xs : List D} (hb : BagOk xs) {ns : List Int} (h0 : ns ≠ []) (hl : ns.length < 1000) : ∃ (i : Int) (ys : List D), m__law_one xs [.list (ns.map PyData.int)] = some (.ret (.val (.int i)), ys) ∧ i ∈ ns ∧ BagOk ys := by
  obtain ⟨d, ys, e, hd, B⟩ := one_list hb (ds := ns.map PyData.int) (by simpa using h0) (by rw [List.length_map]; omega)
  obtain ⟨i, hi, rfl⟩ := List.mem_map.mp hd
  exact ⟨i, ys, e, hi, B⟩
end Fr

namespace Fr
open PySem Mv Sh

/-! ### pieces of rings -/
structure PSide where
  r : Int
  u : Int
  sh : Int
  lo : Int
  hi : Int
def psD (s : PSide) : D := .tuple [.int s.r, .int s.u, .int s.sh, .int s.lo, .int s.hi]
structure Piece where
  kinds : Nat
  sides : List PSide
  rights : List (Int × Int)
def rtD (q : Int × Int) : D := prD q.1 q.2
def pieceD (p : Piece) : D := .tuple [.int p.kinds, .tuple (p.sides.map psD), .tuple (p.rights.map rtD)]
structure PsOk (kinds : Nat) (M : Int) (s : PSide) : Prop where
  r0 : 0 ≤ s.r
  r1 : s.r < kinds
  u0 : 0 ≤ s.u
  u1 : s.u < kinds
  s0 : -3 ≤ s.sh
  s1 : s.sh ≤ 3
  l0 : 0 ≤ s.lo
  le : s.lo ≤ s.hi
  hi : s.hi ≤ M
structure PieceOk (M : Int) (K : Nat) (p : Piece) : Prop where
  all : ∀ s ∈ p.sides, PsOk p.kinds M s
  len : p.sides.length ≤ K
  rl : p.rights.length = p.kinds
  rs : ∀ q ∈ p.rights, 0 ≤ q.1 ∧ q.1 ≤ q.2 ∧ q.2 ≤ 3
theorem PsOk.mono {k : Nat} {M M' : Int} {s : PSide} (h : PsOk k M s) (hm : M ≤ M') : PsOk k M' s := ⟨h.r0, h.r1, h.u0, h.u1, h.s0, h.s1, h.l0, h.le, by have := h.hi; omega⟩
theorem PieceOk.mono {M M' : Int} {K K' : Nat} {p : Piece} (h : PieceOk M K p) (hm : M ≤ M') (hk : K ≤ K') : PieceOk M' K' p := ⟨fun s hs => (h.all s hs).mono hm, by have := h.len; omega, h.rl, h.rs⟩
theorem ps_alike (s t : PSide) : PySem.W.alike (psD s) (psD t) = true := by simp [psD, PySem.W.alike, PySem.W.alikeAll]
theorem ps_depth (s : PSide) : (psD s).depth = 1 := by simp [psD, PyData.depth, PyData.depthAll]
theorem sortB_ps (ss : List PSide) : sortB (ss.map psD) = true := sortB_tups (fun b _ => ⟨_, _, rfl⟩) (fun b _ b' _ => ps_alike b b') (fun b _ => by rw [ps_depth]; decide)
def sortP (ss : List PSide) : List PSide := ss.mergeSort fun a b => PySem.W.dataLe false id (psD a) (psD b)
theorem sortD_ps (ss : List PSide) : sortD (ss.map psD) = (sortP ss).map psD := sort_map psD ss
theorem sortP_perm (ss : List PSide) : (sortP ss).Perm ss := List.mergeSort_perm _ _
def PcI (k : Nat) (s1 : Sl) (ds : List D) (e : En) : Prop := ∃ (ys : List D) (ss : List PSide) (s4 s5 s6 s7 : Sl), e = [.own true ys, s1, .val (.int k), .own false (ss.map psD), s4, s5, s6, s7, .no, .no] ∧ BagOk ys ∧ (∀ s ∈ ss, PsOk k 9 s) ∧ ss.length + 2 * ds.length ≤ 12
theorem piece_ok {xs : List D} (hb : BagOk xs) {kinds : Nat} (h0 : 0 < kinds) (hk : kinds ≤ 10) : ∃ (p : Piece) (ys : List D), m__law_piece xs [.int kinds] = some (.ret (.val (pieceD p)), ys) ∧ BagOk ys ∧ 1 ≤ p.kinds ∧ p.kinds ≤ kinds ∧ PieceOk 9 7 p := by
  obtain ⟨v, y1, e1, v0, v1, B1⟩ := take_ok hb (many := (kinds : Int)) (by omega) (by omega)
  obtain ⟨k, hkk, k1, k2⟩ : ∃ k : Nat, 1 + v = (k : Int) ∧ 1 ≤ k ∧ k ≤ kinds := ⟨(1 + v).toNat, by omega, by omega, by omega⟩
  obtain ⟨m, y2, e2, hm, B2⟩ := one_ints B1 (ns := [2, 3, 4, 6, 1, 0]) (by simp) (by simp)
  obtain ⟨m, rfl, hm6⟩ : ∃ n : Nat, m = (n : Int) ∧ n ≤ 6 := by
    simp only [List.mem_cons,
                                                                                                                  List.not_mem_nil, or_false] at hm
    exact ⟨m.toNat, by omega, by omega⟩
  obtain ⟨e', w, y3, ss, s4, s5, s6, s7, rfl, B3, al, len⟩ := for_inv (pat := pNm 4) (b := b1__law_piece 0) (PcI k (.val (.int kinds))) (fun d ds e ⟨ys, ss, s4, s5, s6, s7, he, B, al, len⟩ => by
    subst he
    rw [List.length_cons] at len
    obtain ⟨most, z1, g1, hm, C1⟩ := one_ints B (ns := [3, 6, 9]) (by simp) (by simp)
    have hm : 0 ≤ most ∧ most ≤ 9 := by
      simp only [List.mem_cons,
                                                                                                                    List.not_mem_nil, or_false] at hm
      omega
    obtain ⟨a, b, z2, g2, a0, ab, bm, C2⟩ := bounds_ok C1 (most := most) hm.1 (by omega)
    obtain ⟨sh, z3, g3, hsh, C3⟩ := one_ints C2 (ns := [0, 0, 1, -1, 2, -3, 3]) (by simp) (by simp)
    have hsh : -3 ≤ sh ∧ sh ≤ 3 := by
      simp only [List.mem_cons, List.not_mem_nil, or_false] at hsh
      omega
    obtain ⟨i, z4, g4, i0, i1, C4⟩ := take_ok C3 (many := (k : Int)) (by omega) (by omega)
    obtain ⟨j, z5, g5, j0, j1, C5⟩ := take_ok C4 (many := (k : Int)) (by omega) (by omega)
    obtain ⟨t, z6, g6, t0, t1, C6⟩ := take_ok C5 (many := 8) (by decide) (by decide)
    have hl1 : ss.length < 1000000 := by omega
    have hl2 : ss.length + 1 < 1000000 := by omega
    have sok : PsOk k 9 ⟨i, j, sh, a, b⟩ := ⟨i0, i1, j0, j1, hsh.1, hsh.2, a0, ab, by show b ≤ 9; omega⟩
    have last := at_lastD (ss.map psD) (psD ⟨i, j, sh, a, b⟩)
    simp only [List.map_cons, List.map_nil] at g1 g3
    simp only [psD] at last
    by_cases ht : t = 0
    · refine ⟨_, [.own true z6, .val (.int kinds), .val (.int k), .own false ((ss ++ [(⟨i, j, sh, a, b⟩ : PSide), ⟨i, j, sh, a, b⟩]).map psD), .val d, .val (.int a), .val (.int b), .val (.int sh), .no, .no], rfl, ?_, z6, ss ++ [⟨i, j, sh, a, b⟩, ⟨i, j, sh, a, b⟩], _, _, _, _, rfl, C6, fun s hs => ?_, by simp; omega⟩
      · simp [b1__law_piece, lim_is, g1, g2, prD, g3, g4, g5, g6, ht, hl1, hl2, last, psD]
      · rcases List.mem_append.mp hs with hs | hs
        · exact al s hs
        · simp only [List.mem_cons, List.not_mem_nil, or_false, or_self] at hs
          rw [hs]; exact sok
    · refine ⟨_, [.own true z6, .val (.int kinds), .val (.int k), .own false ((ss ++ [(⟨i, j, sh, a, b⟩ : PSide)]).map psD), .val d, .val (.int a), .val (.int b), .val (.int sh), .no, .no], rfl, ?_, z6, ss ++ [⟨i, j, sh, a, b⟩], _, _, _, _, rfl, C6, fun s hs => ?_, by simp; omega⟩
      · simp [b1__law_piece, lim_is, g1, g2, prD, g3, g4, g5, g6, ht, hl1, psD]
      · rcases List.mem_append.mp hs with hs | hs
        · exact al s hs
        · rw [List.mem_singleton.mp hs]; exact sok) (rngD 0 m) [.own true y2, .val (.int kinds), .val (.int k), .own false [], .no, .no, .no, .no, .no, .no] ⟨y2, [], .no, .no, .no, .no, rfl, B2, fun _ h => (List.not_mem_nil h).elim, by rw [rng_len]; simp; omega⟩
  obtain ⟨zs, e', w1, w2, w3, y4, rfl, B4⟩ := lcL_draw (pat := pNm 9) (el := e1__law_piece 0) (vs := [9]) (fun k : Nat => PyData.int (k : Int)) rtD (fun _ q => 0 ≤ q.1 ∧ q.1 ≤ q.2 ∧ q.2 ≤ 3)
    (fun e => ∃ ys, e = [.own true ys, .val (.int kinds), .val (.int k), .own false (ss.map psD), s4, s5, s6, s7, .no, .no] ∧ BagOk ys) (List.range k) (fun i hi e ⟨ys, he, B⟩ => by
      subst he
      obtain ⟨d, z1, g1, hd, C1⟩ := one_list B (ds := [rtD (0, 0), rtD (0, 2), rtD (1, 3), rtD (2, 2)]) (by simp) (by simp)
      obtain ⟨q, rfl, hq⟩ : ∃ q, d = rtD q ∧ (0 ≤ q.1 ∧ q.1 ≤ q.2 ∧ q.2 ≤ 3) := by
        simp only [List.mem_cons, List.not_mem_nil, or_false] at hd
        rcases hd with rfl | rfl | rfl | rfl
        · exact ⟨_, rfl, by decide⟩
        · exact ⟨_, rfl, by decide⟩
        · exact ⟨_, rfl, by decide⟩
        · exact ⟨_, rfl, by decide⟩
      simp only [rtD, prD] at g1
      exact ⟨_, _, q, [.own true z1, .val (.int kinds), .val (.int k), .own false (ss.map psD), s4, s5, s6, s7, .no, .val (.int i)], rfl, by simp [e1__law_piece, lim_is, g1, rtD, prD], hq, z1, rfl, C1⟩) _ ⟨y3, rfl, B3⟩
  rw [← rng_map] at w1
  have em : zs.map (fun z => rtD z.2) = (zs.map (·.2)).map rtD := by rw [List.map_map]; rfl
  rw [em] at w1
  have rng : ∀ e, rngR [.int (m : Int)] e = .ok (rngD 0 m) e := rng_nat (by omega)
  have rngk : ∀ e, rngR [.int (k : Int)] e = .ok (rngD 0 k) e := rng_nat (by omega)
  have hrk : (rngD 0 k).length ≤ 1000000 := by rw [rng_len]; omega
  have so := sorted_l (sortB_ps ss)
  rw [sortD_ps] at so
  have cut := cut_hi2 ((sortP ss).map psD) 7
  rw [← List.map_take] at cut
  have cut : cutD ((sortP ss).map psD) none (some 7) = ((sortP ss).take 7).map psD := cut
  refine ⟨⟨k, (sortP ss).take 7, zs.map (·.2)⟩, y4, ?_, B4, k1, k2, ⟨fun s hs => al s ((sortP_perm _).mem_iff.mp (List.mem_of_mem_take hs)), by show (List.take 7 _).length ≤ 7; rw [List.length_take]; omega, ?_, fun q hq => ?_⟩⟩
  · simp only [List.map_cons, List.map_nil] at e2
    have pd : pieceD ⟨k, (sortP ss).take 7, zs.map (·.2)⟩ = .tuple [.int k, .tuple (((sortP ss).take 7).map psD), .tuple ((zs.map (·.2)).map rtD)] := rfl
    rw [pd]
    generalize (zs.map (·.2)).map rtD = rts at w1
    generalize ((sortP ss).take 7).map psD = sds at cut
    simp only [m__law_piece, runB, g__law_piece, List.length_cons, List.length_nil, if_true]
    simp [startE, lim_is, e1, hkk, e2, rng, w, rngk, w1, noOwn, wipeE, backE, hrk, so, cut]
  · have := congrArg List.length w2
    rw [List.length_map, List.length_range] at this
    rw [List.length_map]; exact this
  · obtain ⟨z, hz, rfl⟩ := List.mem_map.mp hq
    exact w3 z hz
end Fr

namespace Fr
open PySem Mv Sh

/-! ### heavy pieces -/
abbrev hp (ys : List D) (s1 s2 : Sl) (k : Nat) (own ws : List Int) (ss : List PSide) (s7 s8 s9 s10 s11 s12 s13 : Sl) : En := [.own true ys, s1, s2, .val (.int k), .own false (own.map PyData.int), .own false (ws.map PyData.int), .own false (ss.map psD), s7, s8, s9, s10, s11, s12, s13]
structure HpOk (k : Nat) (own ws : List Int) : Prop where
  ol : own.length = k
  wl : ws.length = k
  oc : ∀ o ∈ own, 0 ≤ o ∧ o < k
  wc : ∀ w ∈ ws, 1 ≤ w ∧ w ≤ 2
theorem at_ints {ns : List Int} {i : Nat} (h : i < ns.length) : L2.atI (ns.map PyData.int) (i : Int) = some (.int ns[i]) := by
  unfold L2.atI
  rw [List.length_map, ix_nat h]
  simp [h]
section
variable {k : Nat} {own ws : List Int} {s1 s2 : Sl}
def HiI (k : Nat) (own ws : List Int) (s1 s2 : Sl) (kind : Nat) (s12 s13 : Sl) (top : Nat) (lim : Int) (ds : List D) (e : En) : Prop := ∃ (ys : List D) (ss : List PSide) (need : Int) (s9 s10 s11 : Sl), e = hp ys s1 s2 k own ws ss (.val (.int kind)) (.val (.int need)) s9 s10 s11 s12 s13 ∧ BagOk ys ∧ (∀ s ∈ ss, PsOk k 10 s) ∧
  ss.length + ds.length = top ∧ 1 ≤ need ∧ need + 4 * ds.length ≤ lim
theorem hp_inner (O : HpOk k own ws) (kind : Nat) (hk : kind < k) (kb : k ≤ 20) {top : Nat} {lim : Int} (ht : top ≤ 500) (hl : lim ≤ 100) (s12 s13 : Sl) (d : D) (ds : List D) (e : En) (h : HiI k own ws s1 s2 kind s12 s13 top lim (d :: ds) e) :
    ∃ e1 e2, pNm 9 d e = some e1 ∧ b1__law_heavy_piece 0 e1 = .ok .nx e2 ∧ HiI k own ws s1 s2 kind s12 s13 top lim ds e2 := by
  obtain ⟨ys, ss, need, s9, s10, s11, rfl, B, al, len, n1, n2⟩ := h
  rw [List.length_cons] at len n2
  obtain ⟨j, z1, g1, j0, j1, C1⟩ := take_ok B (many := (k : Int)) (by omega) (by omega)
  obtain ⟨high, z2, g2, hh, C2⟩ := one_ints C1 (ns := [1, 2, 1]) (by simp) (by simp)
  have hh : 1 ≤ high ∧ high ≤ 2 := by
    simp only [List.mem_cons, List.not_mem_nil, or_false] at hh
    omega
  obtain ⟨sh, z3, g3, hsh, C3⟩ := one_ints C2 (ns := [1, -1, 2, 0, 3]) (by simp) (by simp)
  have hsh : -3 ≤ sh ∧ sh ≤ 3 := by
    simp only [List.mem_cons, List.not_mem_nil, or_false] at hsh
    omega
  obtain ⟨lo, z4, g4, l0, l1, C4⟩ := take_ok C3 (many := high + 1) (by omega) (by omega)
  obtain ⟨jn, rfl⟩ : ∃ n : Nat, j = (n : Int) := ⟨j.toNat, by omega⟩
  have hjn : jn < k := by omega
  have ho : kind < own.length := by rw [O.ol]; exact hk
  have hw : jn < ws.length := by rw [O.wl]; exact hjn
  have a1 := at_ints ho
  have a2 := at_ints hw
  have oc := O.oc own[kind] (List.getElem_mem ho)
  have wc := O.wc ws[jn] (List.getElem_mem hw)
  generalize own[kind] = ok at a1 oc
  generalize ws[jn] = wj at a2 wc
  have mo : mulOk high wj := .inr (.inl ⟨by omega, by omega⟩)
  have hl1 : ss.length < 1000000 := by omega
  have b1 : high * wj ≤ 2 * wj := Int.mul_le_mul_of_nonneg_right hh.2 (by omega)
  have b0 : 0 ≤ high * wj := Int.mul_nonneg (by omega) (by omega)
  simp only [List.map_cons, List.map_nil] at g2 g3
  refine ⟨_, hp z4 s1 s2 k own ws (ss ++ [(⟨ok, jn, sh, lo, high⟩ : PSide)]) (.val (.int kind)) (.val (.int (need + high * wj))) (.val d) (.val (.int jn)) (.val (.int high)) s12 s13, rfl, ?_, z4, ss ++ [⟨ok, jn, sh, lo, high⟩], need + high * wj, _, _, _, rfl, C4, fun s hs => ?_, by simp; omega, by omega, by omega⟩
  · simp [b1__law_heavy_piece, hp, lim_is, g1, g2, g3, g4, a1, a2, mo, hl1, psD]
  · rcases List.mem_append.mp hs with hs | hs
    · exact al s hs
    · rw [List.mem_singleton.mp hs]
      exact ⟨oc.1, oc.2, by show (0 : Int) ≤ jn; omega, by show (jn : Int) < k; omega, hsh.1, hsh.2, l0, by show lo ≤ high; omega, by show high ≤ 10; omega⟩
def HoI (k : Nat) (own ws : List Int) (s1 s2 s13 : Sl) (ds : List D) (e : En) : Prop := ∃ (ys : List D) (ss : List PSide) (s7 s8 s9 s10 s11 s12 : Sl), e = hp ys s1 s2 k own ws ss s7 s8 s9 s10 s11 s12 s13 ∧ BagOk ys ∧ (∀ s ∈ ss, PsOk k 10 s) ∧ ss.length + 3 * ds.length ≤ 3 * k
theorem hp_outer (O : HpOk k own ws) (kb : k ≤ 20) {diag : Bool} (s13 : Sl) (kind : Nat) (hk : kind < k) (ds : List D) (e : En) (h : HoI k own ws s1 (.val (.bool diag)) s13 (.int (kind : Int) :: ds) e) :
    ∃ e1 e2, pNm 7 (.int (kind : Int)) e = some e1 ∧ b2__law_heavy_piece 0 e1 = .ok .nx e2 ∧ HoI k own ws s1 (.val (.bool diag)) s13 ds e2 ∧ (e2[7]? = some .no ∨ ∃ d, e2[7]? = some (.val d)) := by
  obtain ⟨ys, ss, s7, s8, s9, s10, s11, s12, rfl, B, al, len⟩ := h
  rw [List.length_cons] at len
  obtain ⟨v, z1, g1, v0, v1, C1⟩ := take_ok B (many := 3) (by decide) (by decide)
  obtain ⟨m, rfl⟩ : ∃ n : Nat, v = (n : Int) := ⟨v.toNat, by omega⟩
  obtain ⟨e', w, z2, ss2, need, t9, t10, t11, rfl, C2, al2, len2, n1, n2⟩ := for_inv (pat := pNm 9) (b := b1__law_heavy_piece 0) (HiI k own ws s1 (.val (.bool diag)) kind s12 s13 (ss.length + m) (1 + 4 * m)) (hp_inner O kind hk kb (by omega) (by omega) s12 s13) (rngD 0 m) (hp z1 s1 (.val (.bool diag)) k own ws ss (.val (.int kind)) (.val (.int 1)) s9 s10 s11 s12 s13)
    ⟨z1, ss, 1, s9, s10, s11, rfl, C1, al, by rw [rng_len], by decide, by rw [rng_len]; omega⟩
  rw [List.length_nil] at len2 n2
  have ho : kind < own.length := by rw [O.ol]; exact hk
  have hw : kind < ws.length := by rw [O.wl]; exact hk
  have a1 := at_ints ho
  have a2 := at_ints hw
  have oc := O.oc own[kind] (List.getElem_mem ho)
  have wc := O.wc ws[kind] (List.getElem_mem hw)
  generalize own[kind] = ok at a1 oc
  generalize ws[kind] = wj at a2 wc
  obtain ⟨q1, q2, q3⟩ := ceil_div (need := need) (w := wj) (by omega) wc.1 (by omega)
  have f := fd3 (a := need + wj - 1) (w := wj) wc.1 (by omega)
  generalize (need + wj - 1).fdiv wj = low at q1 q2 q3 f
  simp only [dFdiv_int] at f
  obtain ⟨sh, z3, g3, hsh, C3⟩ := one_ints C2 (ns := [0, 1, -1, 2]) (by simp) (by simp)
  have hsh : -3 ≤ sh ∧ sh ≤ 3 := by
    simp only [List.mem_cons, List.not_mem_nil, or_false] at hsh
    omega
  have rng : ∀ e, rngR [.int (m : Int)] e = .ok (rngD 0 m) e := rng_nat (by omega)
  have hl1 : ss2.length < 1000000 := by omega
  simp only [List.map_cons, List.map_nil] at g3
  simp only [hp] at w
  cases diag with
  | true =>
    obtain ⟨x, z4, g4, x0, x1, C4⟩ := take_ok C2 (many := 2) (by decide) (by decide)
    refine ⟨_, hp z4 s1 (.val (.bool true)) k own ws (ss2 ++ [(⟨ok, kind, 0, low, low + x⟩ : PSide)]) (.val (.int kind)) (.val (.int need)) t9 t10 t11 (.val (.int low)) s13, rfl, ?_, ⟨z4, ss2 ++ [⟨ok, kind, 0, low, low + x⟩], _, _, _, _, _, _, rfl, C4, fun s hs => ?_, by simp; omega⟩, .inr ⟨_, rfl⟩⟩
    · simp [b2__law_heavy_piece, hp, lim_is, g1, rng, w, a1, a2, f, g4, hl1, psD]
    · rcases List.mem_append.mp hs with hs | hs
      · exact al2 s hs
      · rw [List.mem_singleton.mp hs]
        exact ⟨oc.1, oc.2, by show (0 : Int) ≤ kind; omega, by show (kind : Int) < k; omega, by show -3 ≤ (0 : Int); decide, by show (0 : Int) ≤ 3; decide, q2, by show low ≤ low + x; omega, by show low + x ≤ 10; omega⟩
  | false =>
    obtain ⟨x, z4, g4, x0, x1, C4⟩ := take_ok C3 (many := 2) (by decide) (by decide)
    refine ⟨_, hp z4 s1 (.val (.bool false)) k own ws (ss2 ++ [(⟨ok, kind, sh, low, low + x⟩ : PSide)]) (.val (.int kind)) (.val (.int need)) t9 t10 t11 (.val (.int low)) s13, rfl, ?_, ⟨z4, ss2 ++ [⟨ok, kind, sh, low, low + x⟩], _, _, _, _, _, _, rfl, C4, fun s hs => ?_, by simp; omega⟩, .inr ⟨_, rfl⟩⟩
    · simp [b2__law_heavy_piece, hp, lim_is, g1, rng, w, a1, a2, f, g3, g4, hl1, psD]
    · rcases List.mem_append.mp hs with hs | hs
      · exact al2 s hs
      · rw [List.mem_singleton.mp hs]
        exact ⟨oc.1, oc.2, by show (0 : Int) ≤ kind; omega, by show (kind : Int) < k; omega, hsh.1, hsh.2, q2, by show low ≤ low + x; omega, by show low + x ≤ 10; omega⟩
end
end Fr

namespace Fr
open PySem Mv Sh

theorem heavy_piece_ok {xs : List D} (hb : BagOk xs) {kinds : Nat} (h0 : 0 < kinds) (hk : kinds ≤ 10) (diag : Bool) : ∃ (p : Piece) (ys : List D), m__law_heavy_piece xs [.int kinds, .bool diag] = some (.ret (.val (pieceD p)), ys) ∧ BagOk ys ∧ 1 ≤ p.kinds ∧ p.kinds ≤ kinds ∧ PieceOk 10 (3 * kinds) p := by
  obtain ⟨v, y1, e1, v0, v1, B1⟩ := take_ok hb (many := (kinds : Int)) (by omega) (by omega)
  obtain ⟨k, hkk, k1, k2⟩ : ∃ k : Nat, 1 + v = (k : Int) ∧ 1 ≤ k ∧ k ≤ kinds := ⟨(1 + v).toNat, by omega, by omega, by omega⟩
  obtain ⟨ms, y2, m1, mp, B2⟩ := mixed_ok B1 (ds := rngD 0 k) (.inl rfl) (by rw [rng_len]; omega)
  rw [rng_map] at mp
  obtain ⟨ks, rfl, hks⟩ := perm_map (a := fun k : Nat => PyData.int (k : Int)) mp
  -- weights
  obtain ⟨zs, e', w1, w2, w3, y3, rfl, B3⟩ := lcL_draw (pat := pNm 7) (el := e1__law_heavy_piece 0) (vs := [7]) (fun k : Nat => PyData.int (k : Int)) PyData.int (fun _ w => 1 ≤ w ∧ w ≤ 2)
    (fun e => ∃ ys, e = [.own true ys, .val (.int kinds), .val (.bool diag), .val (.int k), .no, .no, .no, .no, .no, .no, .no, .no, .no, .no] ∧ BagOk ys) (List.range k) (fun i hi e ⟨ys, he, B⟩ => by
      subst he
      obtain ⟨v, z1, g1, v0, v1, C1⟩ := take_ok B (many := 2) (by decide) (by decide)
      exact ⟨_, _, 1 + v, [.own true z1, .val (.int kinds), .val (.bool diag), .val (.int k), .no, .no, .no, .val (.int i), .no, .no, .no, .no, .no, .no], rfl, by simp [e1__law_heavy_piece, lim_is, g1], ⟨by omega, by omega⟩, z1, rfl, C1⟩) _ ⟨y2, rfl, B2⟩
  have wm : zs.map (fun z => PyData.int z.2) = (zs.map (·.2)).map PyData.int := by rw [List.map_map]; rfl
  rw [← rng_map, wm] at w1
  have hwl := congrArg List.length w2
  rw [List.length_map, List.length_range] at hwl
  have rngk : ∀ e, rngR [.int (k : Int)] e = .ok (rngD 0 k) e := rng_nat (by omega)
  have hrk : (rngD 0 k).length ≤ 1000000 := by rw [rng_len]; omega
  have hk2 : k ≤ 1000000 := by omega
  generalize hws : zs.map (·.2) = ws at w1
  obtain ⟨own, ho, O⟩ : ∃ own : List Int, (if diag = true then rngD 0 k else ks.map fun k : Nat => PyData.int (k : Int)) = own.map PyData.int ∧ HpOk k own ws := by
    have wl : ws.length = k := by rw [← hws, List.length_map]; exact hwl
    have wc : ∀ w ∈ ws, 1 ≤ w ∧ w ≤ 2 := fun w hw => by
      rw [← hws] at hw
      obtain ⟨z, hz, rfl⟩ := List.mem_map.mp hw
      exact w3 z hz
    cases diag with
    | true => exact ⟨(List.range k).map fun k : Nat => (k : Int), by rw [rng_map, List.map_map]; rfl, by rw [List.length_map, List.length_range], wl, fun o h => by
        obtain ⟨i, hi, rfl⟩ :=
                                                                                                                      List.mem_map.mp h
        have := List.mem_range.mp hi
        omega, wc⟩
    | false => exact ⟨ks.map fun k : Nat => (k : Int), by rw [List.map_map]; rfl, by rw [List.length_map, hks.length_eq, List.length_range], wl, fun o h => by
        obtain ⟨i, hi, rfl⟩ :=
                                                                                                                      List.mem_map.mp h
        have := List.mem_range.mp (hks.mem_iff.mp hi)
        omega, wc⟩
  have W := for_inv (pat := pNm 7) (b := b2__law_heavy_piece 0) (fun ds e => ((∃ c, ds = (rngD 0 k).drop c) ∧ (e[7]? = some .no ∨ ∃ d, e[7]? = some (.val d))) ∧ HoI k own ws (.val (.int kinds)) (.val (.bool diag)) .no ds e) (fun d ds e ⟨⟨⟨c, hc⟩, _⟩, h⟩ => by
    have hlt : c < k := by
      have := congrArg List.length hc
      rw [List.length_cons, List.length_drop, rng_len] at this
      omega
    rw [rng_map, ← List.map_drop, List.drop_eq_getElem_cons (by rw [List.length_range]; exact hlt), List.map_cons, List.getElem_range] at hc
    obtain ⟨hd, hc2⟩ := List.cons.inj hc
    subst hd
    obtain ⟨e1, e2, h1, h2, h3, h7⟩ := hp_outer O (by omega) .no c hlt ds e h
    exact ⟨e1, e2, h1, h2, ⟨⟨c + 1, hc2.trans (by rw [rng_map, List.map_drop])⟩, h7⟩, h3⟩) (rngD 0 k) (hp y3 (.val (.int kinds)) (.val (.bool diag)) k own ws [] .no .no .no .no .no .no .no)
    ⟨⟨⟨0, rfl⟩, .inl rfl⟩, y3, [], .no, .no, .no, .no, .no, .no, rfl, B3, fun _ h => (List.not_mem_nil h).elim, by rw [rng_len]; simp⟩
  obtain ⟨e', w, ⟨-, s7v⟩, y4, ss, s7, s8, s9, s10, s11, s12, rfl, B4, al, len⟩ := W
  -- right sides
  obtain ⟨zs2, e', v1', v2, v3, y5, rfl, B5⟩ := lcL_draw (pat := pNm 7) (el := e2__law_heavy_piece 0) (vs := [7]) (fun k : Nat => PyData.int (k : Int)) rtD (fun _ q => 0 ≤ q.1 ∧ q.1 ≤ q.2 ∧ q.2 ≤ 3)
    (fun e => ∃ ys, e = hp ys (.val (.int kinds)) (.val (.bool diag)) k own ws ss .no s8 s9 s10 s11 s12 .no ∧ BagOk ys) (List.range k) (fun i hi e ⟨ys, he, B⟩ => by
      subst he
      obtain ⟨d, z1, g1, hd, C1⟩ := one_list B (ds := [rtD (0, 0), rtD (0, 2), rtD (1, 3)]) (by simp) (by simp)
      obtain ⟨q, rfl, hq⟩ : ∃ q, d = rtD q ∧ (0 ≤ q.1 ∧ q.1 ≤ q.2 ∧ q.2 ≤ 3) := by
        simp only [List.mem_cons, List.not_mem_nil, or_false] at hd
        rcases hd with rfl | rfl | rfl
        · exact ⟨_, rfl, by decide⟩
        · exact ⟨_, rfl, by decide⟩
        · exact ⟨_, rfl, by decide⟩
      simp only [rtD, prD] at g1
      exact ⟨_, _, q, hp z1 (.val (.int kinds)) (.val (.bool diag)) k own ws ss (.val (.int i)) s8 s9 s10 s11 s12 .no, rfl, by simp [e2__law_heavy_piece, hp, lim_is, g1, rtD, prD], hq, z1, rfl, C1⟩) _ ⟨y4, rfl, B4⟩
  have em : zs2.map (fun z => rtD z.2) = (zs2.map (·.2)).map rtD := by rw [List.map_map]; rfl
  rw [← rng_map, em] at v1'
  have so := sorted_l (sortB_ps ss)
  rw [sortD_ps] at so
  refine ⟨⟨k, sortP ss, zs2.map (·.2)⟩, y5, ?_, B5, k1, k2, ⟨fun s hs => al s ((sortP_perm _).mem_iff.mp hs), by show (sortP ss).length ≤ _; rw [(sortP_perm _).length_eq]; simp at len; omega, ?_, fun q hq => ?_⟩⟩
  · have pd : pieceD ⟨k, sortP ss, zs2.map (·.2)⟩ = .tuple [.int k, .tuple ((sortP ss).map psD), .tuple ((zs2.map (·.2)).map rtD)] := rfl
    rw [pd]
    generalize (zs2.map (·.2)).map rtD = rts at v1'
    generalize (sortP ss).map psD = sds at so
    simp only [m__law_heavy_piece, runB, g__law_heavy_piece, List.length_cons, List.length_nil, if_true]
    have e1' : s1__law_heavy_piece 0 [.own true y1, .val (.int kinds), .val (.bool diag), .val (.int k), .no, .no, .no, .no, .no, .no, .no, .no, .no, .no] = .ok .nx [.own true y3, .val (.int kinds), .val (.bool diag), .val (.int k), .own false (ks.map fun k : Nat => PyData.int (k : Int)), .own false (ws.map PyData.int), .own false [], .no, .no, .no, .no, .no, .no, .no] := by
      simp [s1__law_heavy_piece, lim_is, m1, hk2, rngk, w1, noOwn, wipeE, backE, hrk]
    have e2' : s2__law_heavy_piece 0 (hp y4 (.val (.int kinds)) (.val (.bool diag)) k own ws ss s7 s8 s9 s10 s11 s12 .no) = .ok .nx (hp y5 (.val (.int kinds)) (.val (.bool diag)) k own ws ss s7 s8 s9 s10 s11 s12 (.val (.tuple rts))) := by
      have v1' := v1'
      simp only [hp] at v1' ⊢
      have : s7 = .no ∨ ∃ d, s7 = .val d := s7v.imp (fun h => Option.some.inj h) fun ⟨d, h⟩ => ⟨d, Option.some.inj h⟩
      rcases this with rfl | ⟨d7, rfl⟩ <;> simp [s2__law_heavy_piece, rngk, v1', noOwn, wipeE, backE, lim_is, hrk]
    simp only [hp, List.map_nil] at w e2'
    cases diag with
    | true =>
      rw [if_pos rfl] at ho
      rw [← ho] at w e2'
      simp [startE, lim_is, e1, hkk, e1', hk2, rngk, w, e2', s3__law_heavy_piece, so]
    | false =>
      rw [if_neg Bool.false_ne_true] at ho
      rw [← ho] at w e2'
      simp [startE, lim_is, e1, hkk, e1', hk2, rngk, w, e2', s3__law_heavy_piece, so]
  · have := congrArg List.length v2
    rw [List.length_map, List.length_range] at this
    rw [List.length_map]; exact this
  · obtain ⟨z, hz, rfl⟩ := List.mem_map.mp hq
    exact v3 z hz
end Fr

namespace Fr
open PySem Mv Sh

/-! ### rings -/
def ringSide (p : Piece) (many place : Int) (s : PSide) : Side := ⟨(place + s.sh).fmod many * p.kinds + s.u, s.lo, s.hi⟩
def ringSides (p : Piece) (many place : Int) (kind : Int) : List Side := (p.sides.filter fun s => decide (s.r = kind)).map (ringSide p many place)
def ringRow (p : Piece) (many place : Int) (kind : Nat) : Row := ⟨sortS (ringSides p many place kind), (p.rights.getD kind (0, 0)).1, (p.rights.getD kind (0, 0)).2⟩
def ringRows (p : Piece) (many : Nat) : List Row := (List.range many).flatMap fun place : Nat => (List.range p.kinds).map fun kind : Nat => ringRow p many place kind
def ringT (p : Piece) (many : Nat) : Tab := ⟨many * p.kinds, ringRows p many⟩
theorem ringSide_ok {M : Int} {K : Nat} {p : Piece} (P : PieceOk M K p) {many : Nat} (h0 : 0 < many) {place : Int} {s : PSide} (hs : s ∈ p.sides) : SideOk (many * p.kinds) M (ringSide p many place s) := by
  have S := P.all s hs
  have f0 := Int.fmod_nonneg_of_pos (place + s.sh) (b := (many : Int)) (by omega)
  have f1 := Int.fmod_lt_of_pos (place + s.sh) (b := (many : Int)) (by omega)
  unfold ringSide
  generalize (place + s.sh).fmod many = f at f0 f1 ⊢
  have k0 : (0 : Int) ≤ p.kinds := by omega
  have a0 : 0 ≤ f * p.kinds := Int.mul_nonneg f0 k0
  have a1 : (f + 1) * p.kinds ≤ (many : Int) * p.kinds := Int.mul_le_mul_of_nonneg_right (by omega) k0
  rw [Int.add_mul, Int.one_mul] at a1
  have u0 := S.u0
  have u1 := S.u1
  refine ⟨by show 0 ≤ f * p.kinds + s.u; omega, ?_, S.l0, S.le, S.hi⟩
  show f * (p.kinds : Int) + s.u < ((many * p.kinds : Nat) : Int)
  rw [Int.natCast_mul]
  omega
theorem ring_ok {M : Int} {K : Nat} {p : Piece} (P : PieceOk M K p) (hM : 3 ≤ M) {many : Nat} (h0 : 0 < many) : TabOk M K (many * p.kinds) (ringT p many) := by
  refine ⟨fun r hr => ?_, ?_⟩
  · obtain ⟨place, h1, h2⟩ := List.mem_flatMap.mp hr
    obtain ⟨kind, h3, rfl⟩ := List.mem_map.mp h2
    have hk := List.mem_range.mp h3
    have hrt : p.rights.getD kind (0, 0) ∈ p.rights := by
      rw [List.getD_eq_getElem?_getD, List.getElem?_eq_getElem (by rw [P.rl]; exact hk)]
      exact List.getElem_mem _
    have R := P.rs _ hrt
    refine ⟨fun s hs => ?_, ?_, R.1, R.2.1, by show (p.rights.getD kind (0, 0)).2 ≤ M; omega⟩
    · obtain ⟨q, hq, rfl⟩ := List.mem_map.mp ((sortS_perm _).mem_iff.mp hs)
      exact ringSide_ok P h0 (List.mem_filter.mp hq).1
    · show (sortS _).length ≤ K
      rw [(sortS_perm _).length_eq]
      unfold ringSides
      rw [List.length_map]
      exact Nat.le_trans (List.length_filter_le ..) P.len
  · show (ringRows p many).length ≤ _
    unfold ringRows
    rw [List.length_flatMap]
    have : ((List.range many).map fun place : Nat => ((List.range p.kinds).map fun kind : Nat => ringRow p many place kind).length) = (List.range many).map fun _ => p.kinds := List.map_congr_left fun x _ => by rw [List.length_map, List.length_range]
    rw [this, List.map_const', List.sum_replicate_nat, List.length_range]
    exact Nat.le_refl _
/-- the law's ring -/
theorem law_ring_loop1 {p : Piece} {many : Nat} (h0 : 0 < many) (hm : many ≤ 1000) (hk : p.kinds ≤ 100) {s0 s3 s4 s5 s8' : Sl} {place : Int} (hp : place.natAbs < 1000) {kind : Nat} (b : MS) (hb : b = b1__law_ring 0) :
    ∀ (ps : List PSide) (found : List Side) (s9 s10 s11 s12 s13 s14 : Sl), (∀ s ∈ ps, s ∈ p.sides ∧ -3 ≤ s.sh ∧ s.sh ≤ 3) → found.length + ps.length ≤ 100000 →
      ∃ t9 t10 t11 t12 t13 t14, forL (pTup (pCons (pNm 9) (pCons (pNm 10) (pCons (pNm 11) (pCons (pNm 12) (pCons (pNm 13) (pNil))))))) b (ps.map psD) [s0, .val (.int many), .val (.int p.kinds), s3, s4, s5, .val (.int place), .val (.int kind), .own false (found.map sideD), s9, s10, s11, s12, s13, s14] =
        .ok .nx [s0, .val (.int many), .val (.int p.kinds), s3, s4, s5, .val (.int place), .val (.int kind), .own false ((found ++ (ps.filter fun s => decide (s.r = (kind : Int))).map (ringSide p many place)).map sideD), t9, t10, t11, t12, t13, t14]
  | [], found, s9, s10, s11, s12, s13, s14, _, _ => ⟨s9, s10, s11, s12, s13, s14, by simp [forL]⟩
  | s :: ps, found, s9, s10, s11, s12, s13, s14, hs, hl => by
    rw [List.length_cons] at hl
    obtain ⟨h1, h2, h3⟩ := hs s List.mem_cons_self
    have hf : found.length < 1000000 := by omega
    have lg : many.log2 < 9000 := Nat.lt_of_le_of_lt (Nat.log2_le_self many) (by omega)
    have hm0 : ¬ many = 0 := by omega
    have fm : (place + s.sh) - (place + s.sh).fdiv many * many = (place + s.sh).fmod many := by
      rw [Int.fmod_def, Int.mul_comm]
    have f0 := Int.fmod_nonneg_of_pos (place + s.sh) (b := (many : Int)) (by omega)
    have f1 := Int.fmod_lt_of_pos (place + s.sh) (b := (many : Int)) (by omega)
    have mo1 : mulOk ((place + s.sh).fdiv many) (many : Int) := .inr (.inr ⟨by omega, by omega⟩)
    have mo2 : mulOk ((place + s.sh).fmod many) (p.kinds : Int) := .inr (.inl ⟨by omega, by omega⟩)
    by_cases hr : s.r = kind
    · obtain ⟨t9, t10, t11, t12, t13, t14, ih⟩ := law_ring_loop1 h0 hm hk (s0 := s0) (s3 := s3) (s4 := s4) (s5 := s5) (s8' := s8') hp (kind := kind) b hb ps (found ++ [ringSide p many place s]) (.val (.int s.r)) (.val (.int s.u)) (.val (.int s.sh)) (.val (.int s.lo)) (.val (.int s.hi)) (.val (.int (place + s.sh))) (fun x hx => hs x (List.mem_cons_of_mem _ hx)) (by rw [List.length_append, List.length_singleton]; omega)
      refine ⟨t9, t10, t11, t12, t13, t14, ?_⟩
      rw [List.filter_cons_of_pos (by simpa using hr), List.map_cons (f := ringSide p many place), List.append_cons]
      rw [← ih]
      rw [List.map_cons, forL]
      have e1 : pTup (pCons (pNm 9) (pCons (pNm 10) (pCons (pNm 11) (pCons (pNm 12) (pCons (pNm 13) (pNil)))))) (psD s) [s0, .val (.int many), .val (.int p.kinds), s3, s4, s5, .val (.int place), .val (.int kind), .own false (found.map sideD), s9, s10, s11, s12, s13, s14] =
        some [s0, .val (.int many), .val (.int p.kinds), s3, s4, s5, .val (.int place), .val (.int kind), .own false (found.map sideD), .val (.int s.r), .val (.int s.u), .val (.int s.sh), .val (.int s.lo), .val (.int s.hi), s14] := rfl
      rw [e1]
      dsimp only
      have e2 : b [s0, .val (.int many), .val (.int p.kinds), s3, s4, s5, .val (.int place), .val (.int kind), .own false (found.map sideD), .val (.int s.r), .val (.int s.u), .val (.int s.sh), .val (.int s.lo), .val (.int s.hi), s14] =
        .ok .nx [s0, .val (.int many), .val (.int p.kinds), s3, s4, s5, .val (.int place), .val (.int kind), .own false ((found ++ [ringSide p many place s]).map sideD), .val (.int s.r), .val (.int s.u), .val (.int s.sh), .val (.int s.lo), .val (.int s.hi), .val (.int (place + s.sh))] := by
        rw [hb]
        simp [b1__law_ring, hr, hm0, lg, mo1, fm, mo2, lim_is, hf, sideD, ringSide]
      rw [e2]
    · obtain ⟨t9, t10, t11, t12, t13, t14, ih⟩ := law_ring_loop1 h0 hm hk (s0 := s0) (s3 := s3) (s4 := s4) (s5 := s5) (s8' := s8') hp (kind := kind) b hb ps found (.val (.int s.r)) (.val (.int s.u)) (.val (.int s.sh)) (.val (.int s.lo)) (.val (.int s.hi)) s14 (fun x hx => hs x (List.mem_cons_of_mem _ hx)) (by omega)
      refine ⟨t9, t10, t11, t12, t13, t14, ?_⟩
      rw [List.filter_cons_of_neg (by simpa using hr), ← ih, List.map_cons, forL]
      have e1 : pTup (pCons (pNm 9) (pCons (pNm 10) (pCons (pNm 11) (pCons (pNm 12) (pCons (pNm 13) (pNil)))))) (psD s) [s0, .val (.int many), .val (.int p.kinds), s3, s4, s5, .val (.int place), .val (.int kind), .own false (found.map sideD), s9, s10, s11, s12, s13, s14] =
        some [s0, .val (.int many), .val (.int p.kinds), s3, s4, s5, .val (.int place), .val (.int kind), .own false (found.map sideD), .val (.int s.r), .val (.int s.u), .val (.int s.sh), .val (.int s.lo), .val (.int s.hi), s14] := rfl
      rw [e1]
      dsimp only
      have e2 : b [s0, .val (.int many), .val (.int p.kinds), s3, s4, s5, .val (.int place), .val (.int kind), .own false (found.map sideD), .val (.int s.r), .val (.int s.u), .val (.int s.sh), .val (.int s.lo), .val (.int s.hi), s14] =
        .ok .nx [s0, .val (.int many), .val (.int p.kinds), s3, s4, s5, .val (.int place), .val (.int kind), .own false (found.map sideD), .val (.int s.r), .val (.int s.u), .val (.int s.sh), .val (.int s.lo), .val (.int s.hi), s14] := by
        rw [hb]
        simp [b1__law_ring, hr]
      rw [e2]

theorem law_ring_loop2 {M : Int} {K : Nat} {p : Piece} (P : PieceOk M K p) (hK : K ≤ 1000) {many : Nat} (h0 : 0 < many) (hm : many ≤ 1000) (hk : p.kinds ≤ 100) {place : Int} (hp : place.natAbs < 1000) (s0 : Sl) :
    ∀ (ks : List Nat) (rows : List Row) (s7 s8 s9 s10 s11 s12 s13 s14 : Sl), (∀ k ∈ ks, k < p.kinds) → rows.length + ks.length ≤ 900000 →
      ∃ t7 t8 t9 t10 t11 t12 t13 t14, forL (pNm 7) (b2__law_ring 0) (ks.map fun k : Nat => PyData.int (k : Int)) [s0, .val (.int many), .val (.int p.kinds), .val (.tuple (p.sides.map psD)), .val (.tuple (p.rights.map rtD)), .own false (rows.map rowD), .val (.int place), s7, s8, s9, s10, s11, s12, s13, s14] =
        .ok .nx [s0, .val (.int many), .val (.int p.kinds), .val (.tuple (p.sides.map psD)), .val (.tuple (p.rights.map rtD)), .own false ((rows ++ ks.map fun k : Nat => ringRow p many place k).map rowD), .val (.int place), t7, t8, t9, t10, t11, t12, t13, t14]
  | [], rows, s7, s8, s9, s10, s11, s12, s13, s14, _, _ => ⟨s7, s8, s9, s10, s11, s12, s13, s14, by simp [forL]⟩
  | k :: ks, rows, s7, s8, s9, s10, s11, s12, s13, s14, hks, hl => by
    rw [List.length_cons] at hl
    have hkk := hks k List.mem_cons_self
    obtain ⟨t9, t10, t11, t12, t13, t14, e1⟩ := law_ring_loop1 (p := p) h0 hm hk (s0 := s0) (s3 := .val (.tuple (p.sides.map psD))) (s4 := .val (.tuple (p.rights.map rtD))) (s5 := .own false (rows.map rowD)) (s8' := .no) hp (kind := k) _ rfl p.sides [] s9 s10 s11 s12 s13 s14
      (fun s hs => ⟨hs, (P.all s hs).s0, (P.all s hs).s1⟩) (by have := P.len; simp; omega)
    obtain ⟨u7, u8, u9, u10, u11, u12, u13, u14, ih⟩ := law_ring_loop2 P hK h0 hm hk hp s0 ks (rows ++ [ringRow p many place k]) (.val (.int k)) (.val (.list ((ringSides p many place k).map sideD))) t9 t10 t11 t12 t13 t14 (fun x hx => hks x (List.mem_cons_of_mem _ hx)) (by rw [List.length_append, List.length_singleton]; omega)
    refine ⟨u7, u8, u9, u10, u11, u12, u13, u14, ?_⟩
    have so := sorted_l (sortB_sides (ringSides p many place k))
    rw [sortD_sides] at so
    have hrt : L2.atI (p.rights.map rtD) (k : Int) = some (rtD (p.rights.getD k (0, 0))) := by
      have hk2 : k < p.rights.length := by rw [P.rl]; exact hkk
      unfold L2.atI
      rw [List.length_map, ix_nat hk2, List.getD_eq_getElem?_getD, List.getElem?_eq_getElem hk2]
      simp [hk2]
    have hrl : rows.length < 1000000 := by omega
    have e2 : b2__law_ring 0 [s0, .val (.int many), .val (.int p.kinds), .val (.tuple (p.sides.map psD)), .val (.tuple (p.rights.map rtD)), .own false (rows.map rowD), .val (.int place), .val (.int k), s8, s9, s10, s11, s12, s13, s14] =
        .ok .nx [s0, .val (.int many), .val (.int p.kinds), .val (.tuple (p.sides.map psD)), .val (.tuple (p.rights.map rtD)), .own false ((rows ++ [ringRow p many place k]).map rowD), .val (.int place), .val (.int k), .val (.list ((ringSides p many place k).map sideD)), t9, t10, t11, t12, t13, t14] := by
      rw [List.map_append (l₁ := rows)]
      have e1 : forL _ _ _ _ = R.ok Fl.nx [s0, .val (.int many), .val (.int p.kinds), .val (.tuple (p.sides.map psD)), .val (.tuple (p.rights.map rtD)), .own false (rows.map rowD), .val (.int place), .val (.int k), .own false ((ringSides p many place k).map sideD), t9, t10, t11, t12, t13, t14] := e1
      simp only [List.map_nil] at e1
      have rr : rowD (ringRow p many place k) = .tuple [.tuple ((sortS (ringSides p many place k)).map sideD), rtD (p.rights.getD k (0, 0))] := rfl
      rw [List.map_cons, List.map_nil, rr]
      generalize (ringSides p many place k).map sideD = rs at e1 so ⊢
      generalize rtD (p.rights.getD k (0, 0)) = rt at hrt ⊢
      simp [b2__law_ring, e1, lim_is, so, hrt, hrl]
    rw [List.map_cons, forL]
    show (match b2__law_ring 0 _ with
      | .ok .nx e2 => forL (pNm 7) (b2__law_ring 0) (ks.map fun k : Nat => PyData.int (k : Int)) e2
      | .ok .ct e2 => forL (pNm 7) (b2__law_ring 0) (ks.map fun k : Nat => PyData.int (k : Int)) e2
      | .ok .bk e2 => .ok .nx e2
      | .ok (.rt r) e2 => .ok (.rt r) e2
      | .exc c fs e2 => .exc c fs e2
      | .bad => .bad) = _
    simp only [List.set]
    rw [e2]
    dsimp only
    rw [ih, List.map_cons (f := fun k : Nat => ringRow p many place k), List.append_assoc]
    rfl
theorem law_ring_loop3 {M : Int} {K : Nat} {p : Piece} (P : PieceOk M K p) (hK : K ≤ 1000) {many : Nat} (h0 : 0 < many) (hm : many ≤ 900) (hk : p.kinds ≤ 100) (s0 : Sl) :
    ∀ (qs : List Nat) (rows : List Row) (s6 s7 s8 s9 s10 s11 s12 s13 s14 : Sl), (∀ q ∈ qs, q < 1000) → rows.length + qs.length * p.kinds ≤ 900000 →
      ∃ t6 t7 t8 t9 t10 t11 t12 t13 t14, forL (pNm 6) (b3__law_ring 0) (qs.map fun k : Nat => PyData.int (k : Int)) [s0, .val (.int many), .val (.int p.kinds), .val (.tuple (p.sides.map psD)), .val (.tuple (p.rights.map rtD)), .own false (rows.map rowD), s6, s7, s8, s9, s10, s11, s12, s13, s14] =
        .ok .nx [s0, .val (.int many), .val (.int p.kinds), .val (.tuple (p.sides.map psD)), .val (.tuple (p.rights.map rtD)), .own false ((rows ++ qs.flatMap fun place : Nat => (List.range p.kinds).map fun k : Nat => ringRow p many place k).map rowD), t6, t7, t8, t9, t10, t11, t12, t13, t14]
  | [], rows, s6, s7, s8, s9, s10, s11, s12, s13, s14, _, _ => ⟨s6, s7, s8, s9, s10, s11, s12, s13, s14, by simp [forL]⟩
  | q :: qs, rows, s6, s7, s8, s9, s10, s11, s12, s13, s14, hq, hl => by
    rw [List.length_cons, Nat.succ_mul] at hl
    have q1 := hq q List.mem_cons_self
    obtain ⟨t7, t8, t9, t10, t11, t12, t13, t14, e1⟩ := law_ring_loop2 P hK h0 (by omega) hk (place := (q : Int)) (by omega) s0 (List.range p.kinds) rows s7 s8 s9 s10 s11 s12 s13 s14 (fun k h => List.mem_range.mp h) (by rw [List.length_range]; omega)
    obtain ⟨u6, u7, u8, u9, u10, u11, u12, u13, u14, ih⟩ := law_ring_loop3 P hK h0 hm hk s0 qs (rows ++ (List.range p.kinds).map fun k : Nat => ringRow p many q k) (.val (.int q)) t7 t8 t9 t10 t11 t12 t13 t14 (fun x hx => hq x (List.mem_cons_of_mem _ hx)) (by rw [List.length_append, List.length_map, List.length_range]; omega)
    refine ⟨u6, u7, u8, u9, u10, u11, u12, u13, u14, ?_⟩
    have rng : ∀ e, rngR [.int (p.kinds : Int)] e = .ok (rngD 0 p.kinds) e := rng_nat (by omega)
    rw [← rng_map] at e1
    have e2 : b3__law_ring 0 [s0, .val (.int many), .val (.int p.kinds), .val (.tuple (p.sides.map psD)), .val (.tuple (p.rights.map rtD)), .own false (rows.map rowD), .val (.int q), s7, s8, s9, s10, s11, s12, s13, s14] =
        .ok .nx [s0, .val (.int many), .val (.int p.kinds), .val (.tuple (p.sides.map psD)), .val (.tuple (p.rights.map rtD)), .own false ((rows ++ (List.range p.kinds).map fun k : Nat => ringRow p many q k).map rowD), .val (.int q), t7, t8, t9, t10, t11, t12, t13, t14] := by
      generalize (rows ++ (List.range p.kinds).map fun k : Nat => ringRow p many q k).map rowD = rw2 at e1 ⊢
      simp [b3__law_ring, rng, e1]
    rw [List.map_cons, forL]
    show (match b3__law_ring 0 _ with
      | .ok .nx e2 => forL (pNm 6) (b3__law_ring 0) (qs.map fun k : Nat => PyData.int (k : Int)) e2
      | .ok .ct e2 => forL (pNm 6) (b3__law_ring 0) (qs.map fun k : Nat => PyData.int (k : Int)) e2
      | .ok .bk e2 => .ok .nx e2
      | .ok (.rt r) e2 => .ok (.rt r) e2
      | .exc c fs e2 => .exc c fs e2
      | .bad => .bad) = _
    simp only [List.set]
    rw [e2]
    dsimp only
    rw [ih, List.flatMap_cons, List.append_assoc]
theorem law_ring_eq {M : Int} {K : Nat} {p : Piece} (P : PieceOk M K p) (hK : K ≤ 1000) {many : Nat} (h0 : 0 < many) (hm : many ≤ 900) (hk : p.kinds ≤ 100) : m__law_ring [pieceD p, .int many] = some (.ret (.val (tabD (ringT p many)))) := by
  have hmk : many * p.kinds ≤ 900 * 100 := Nat.mul_le_mul hm hk
  obtain ⟨t6, t7, t8, t9, t10, t11, t12, t13, t14, e1⟩ := law_ring_loop3 P hK h0 hm hk (.val (pieceD p)) (List.range many) [] .no .no .no .no .no .no .no .no .no (fun q h => by have := List.mem_range.mp h; omega) (by rw [List.length_range]; simp; omega)
  rw [← rng_map, List.nil_append] at e1
  have rng : ∀ e, rngR [.int (many : Int)] e = .ok (rngD 0 many) e := rng_nat (by omega)
  have mo : mulOk (many : Int) (p.kinds : Int) := .inr (.inl ⟨by omega, by omega⟩)
  have td : tabD (ringT p many) = .tuple [.int ((many : Int) * p.kinds), .tuple ((ringRows p many).map rowD)] := by
    show PyData.tuple [.int ((many * p.kinds : Nat) : Int), _] = _
    rw [Int.natCast_mul]; rfl
  rw [td]
  have e1 : forL _ _ _ _ = R.ok Fl.nx [.val (pieceD p), .val (.int many), .val (.int p.kinds), .val (.tuple (p.sides.map psD)), .val (.tuple (p.rights.map rtD)), .own false ((ringRows p many).map rowD), t6, t7, t8, t9, t10, t11, t12, t13, t14] := e1
  simp only [List.map_nil] at e1
  generalize (ringRows p many).map rowD = rw2 at e1 ⊢
  have pt : ∀ e : En, pTup (pCons (pNm 2) (pCons (pNm 3) (pCons (pNm 4) (pNil)))) (pieceD p) (.val (pieceD p) :: .val (.int many) :: e) = (pTup (pCons (pNm 2) (pCons (pNm 3) (pCons (pNm 4) (pNil)))) (.tuple [.int p.kinds, .tuple (p.sides.map psD), .tuple (p.rights.map rtD)]) (.val (pieceD p) :: .val (.int many) :: e)) := fun e => rfl
  generalize pieceD p = pd at e1 pt ⊢
  simp only [m__law_ring, runM, g__law_ring, List.length_cons, List.length_nil, if_true]
  simp [startE, pt, rng, e1, mo, lim_is]
end Fr

namespace Rg
open PySem Mv Sh Fr
/-! ### ring_table -/
theorem ring_row_loop {p : Piece} {many : Nat} (h0 : 0 < many) (hm : many ≤ 1000) (hk : p.kinds ≤ 100) {s0 s5 s6 : Sl} {place : Nat} (hp : place < 1000) {kind : Nat} :
    ∀ (ps : List PSide) (found : List Side) (s9 s10 s11 s12 s13 : Sl), found.length + ps.length ≤ 100000 →
      ∃ t9 t10 t11 t12 t13, forL (pTup (pCons (pNm 8) (pCons (pNm 9) (pCons (pNm 10) (pCons (pNm 11) (pCons (pNm 12) (pNil))))))) (b1_ring_row 0) (ps.map psD) [s0, .val (.int many), .val (.int place), .val (.int kind), .val (.int p.kinds), s5, s6, .own false (found.map sideD), s9, s10, s11, s12, s13] =
        .ok .nx [s0, .val (.int many), .val (.int place), .val (.int kind), .val (.int p.kinds), s5, s6, .own false ((found ++ (ps.filter fun s => decide (s.r = (kind : Int))).map (ringSide p many place)).map sideD), t9, t10, t11, t12, t13]
  | [], found, s9, s10, s11, s12, s13, _ => ⟨s9, s10, s11, s12, s13, by simp [forL]⟩
  | s :: ps, found, s9, s10, s11, s12, s13, hl => by
    rw [List.length_cons] at hl
    have hf : found.length < 1000000 := by omega
    have lg : many.log2 < 9000 := Nat.lt_of_le_of_lt (Nat.log2_le_self many) (by omega)
    have hm0 : ¬ many = 0 := by omega
    have f0 := Int.fmod_nonneg_of_pos ((place : Int) + s.sh) (b := (many : Int)) (by omega)
    have f1 := Int.fmod_lt_of_pos ((place : Int) + s.sh) (b := (many : Int)) (by omega)
    have mo2 : mulOk (((place : Int) + s.sh).fmod many) (p.kinds : Int) := .inr (.inl ⟨by omega, by omega⟩)
    have pt : pTup (pCons (pNm 8) (pCons (pNm 9) (pCons (pNm 10) (pCons (pNm 11) (pCons (pNm 12) (pNil)))))) (psD s) [s0, .val (.int many), .val (.int place), .val (.int kind), .val (.int p.kinds), s5, s6, .own false (found.map sideD), s9, s10, s11, s12, s13] =
        some [s0, .val (.int many), .val (.int place), .val (.int kind), .val (.int p.kinds), s5, s6, .own false (found.map sideD), .val (.int s.r), .val (.int s.u), .val (.int s.sh), .val (.int s.lo), .val (.int s.hi)] := rfl
    by_cases hr : s.r = kind
    · obtain ⟨t9, t10, t11, t12, t13, ih⟩ := ring_row_loop h0 hm hk (s0 := s0) (s5 := s5) (s6 := s6) hp (kind := kind) ps (found ++ [ringSide p many place s]) (.val (.int s.r)) (.val (.int s.u)) (.val (.int s.sh)) (.val (.int s.lo)) (.val (.int s.hi)) (by rw [List.length_append, List.length_singleton]; omega)
      refine ⟨t9, t10, t11, t12, t13, ?_⟩
      rw [List.filter_cons_of_pos (by simpa using hr), List.map_cons (f := ringSide p many place), List.append_cons, ← ih, List.map_cons, forL, pt]
      dsimp only
      have e2 : b1_ring_row 0 [s0, .val (.int many), .val (.int place), .val (.int kind), .val (.int p.kinds), s5, s6, .own false (found.map sideD), .val (.int s.r), .val (.int s.u), .val (.int s.sh), .val (.int s.lo), .val (.int s.hi)] =
        .ok .nx [s0, .val (.int many), .val (.int place), .val (.int kind), .val (.int p.kinds), s5, s6, .own false ((found ++ [ringSide p many place s]).map sideD), .val (.int s.r), .val (.int s.u), .val (.int s.sh), .val (.int s.lo), .val (.int s.hi)] := by
        simp [b1_ring_row, hr, hm0, lg, mo2, lim_is, hf, sideD, ringSide]
      rw [e2]
    · obtain ⟨t9, t10, t11, t12, t13, ih⟩ := ring_row_loop h0 hm hk (s0 := s0) (s5 := s5) (s6 := s6) hp (kind := kind) ps found (.val (.int s.r)) (.val (.int s.u)) (.val (.int s.sh)) (.val (.int s.lo)) (.val (.int s.hi)) (by omega)
      refine ⟨t9, t10, t11, t12, t13, ?_⟩
      rw [List.filter_cons_of_neg (by simpa using hr), ← ih, List.map_cons, forL, pt]
      dsimp only
      have e2 : b1_ring_row 0 [s0, .val (.int many), .val (.int place), .val (.int kind), .val (.int p.kinds), s5, s6, .own false (found.map sideD), .val (.int s.r), .val (.int s.u), .val (.int s.sh), .val (.int s.lo), .val (.int s.hi)] =
        .ok .nx [s0, .val (.int many), .val (.int place), .val (.int kind), .val (.int p.kinds), s5, s6, .own false (found.map sideD), .val (.int s.r), .val (.int s.u), .val (.int s.sh), .val (.int s.lo), .val (.int s.hi)] := by
        simp [b1_ring_row, hr]
      rw [e2]
theorem ring_row_ok {M : Int} {K : Nat} {p : Piece} (P : PieceOk M K p) (hK : K ≤ 1000) {many : Nat} (h0 : 0 < many) (hm : many ≤ 900) (hk : p.kinds ≤ 100) {place : Nat} (hp : place < 1000) {kind : Nat} (hkk : kind < p.kinds) :
    m_ring_row [pieceD p, .int many, .int place, .int kind] = some (.ret (.val (rowD (ringRow p many place kind)))) := by
  obtain ⟨t9, t10, t11, t12, t13, e1⟩ := ring_row_loop (p := p) h0 (by omega) hk (s0 := .val (pieceD p)) (s5 := .val (.tuple (p.sides.map psD))) (s6 := .val (.tuple (p.rights.map rtD))) hp (kind := kind) p.sides [] .no .no .no .no .no (by have := P.len; simp; omega)
  have so := sorted_l (sortB_sides (ringSides p many place kind))
  rw [sortD_sides] at so
  have hrt : L2.atI (p.rights.map rtD) (kind : Int) = some (rtD (p.rights.getD kind (0, 0))) := by
    have hk2 : kind < p.rights.length := by rw [P.rl]; exact hkk
    unfold L2.atI
    rw [List.length_map, ix_nat hk2, List.getD_eq_getElem?_getD, List.getElem?_eq_getElem hk2]
    simp [hk2]
  have e1 : forL _ _ _ _ = R.ok Fl.nx [.val (pieceD p), .val (.int many), .val (.int place), .val (.int kind), .val (.int p.kinds), .val (.tuple (p.sides.map psD)), .val (.tuple (p.rights.map rtD)), .own false ((ringSides p many place kind).map sideD), t9, t10, t11, t12, t13] := e1
  simp only [List.map_nil] at e1
  have rr : rowD (ringRow p many place kind) = .tuple [.tuple ((sortS (ringSides p many place kind)).map sideD), rtD (p.rights.getD kind (0, 0))] := rfl
  rw [rr]
  have pt : ∀ e : En, pTup (pCons (pNm 4) (pCons (pNm 5) (pCons (pNm 6) (pNil)))) (pieceD p) (.val (pieceD p) :: e) = (pTup (pCons (pNm 4) (pCons (pNm 5) (pCons (pNm 6) (pNil)))) (.tuple [.int p.kinds, .tuple (p.sides.map psD), .tuple (p.rights.map rtD)]) (.val (pieceD p) :: e)) := fun _ => rfl
  generalize (ringSides p many place kind).map sideD = rs at e1 so ⊢
  generalize (sortS (ringSides p many place kind)).map sideD = rs2 at so ⊢
  generalize rtD (p.rights.getD kind (0, 0)) = rt at hrt ⊢
  generalize pieceD p = pd at e1 pt ⊢
  simp only [m_ring_row, runM, g_ring_row, List.length_cons, List.length_nil, if_true]
  simp [startE, pt, e1, so, hrt, lim_is]
theorem ring_table_ok {M : Int} {K : Nat} {p : Piece} (P : PieceOk M K p) (hK : K ≤ 1000) {many : Nat} (h0 : 0 < many) (hm : many ≤ 900) (hk : p.kinds ≤ 100) : m_ring_table [pieceD p, .int many] = some (.ret (.val (tabD (ringT p many)))) := by
  have hmk : many * p.kinds ≤ 900 * 100 := Nat.mul_le_mul hm hk
  have rngk : ∀ e, rngR [.int (p.kinds : Int)] e = .ok (rngD 0 p.kinds) e := rng_nat (by omega)
  have rngm : ∀ e, rngR [.int (many : Int)] e = .ok (rngD 0 many) e := rng_nat (by omega)
  have at0 : L2.atI [PyData.int p.kinds, .tuple (p.sides.map psD), .tuple (p.rights.map rtD)] 0 = some (.int p.kinds) := rfl
  have stp : ∀ (qs : List Nat) (rows : List Row) (s3 : Sl), (∀ q ∈ qs, q < 1000) → rows.length + qs.length * p.kinds ≤ 900000 → ∃ t3, forL (pNm 3) (b1_ring_table 0) (qs.map fun k : Nat => PyData.int (k : Int)) [.val (pieceD p), .val (.int many), .own false (rows.map rowD), s3, .no] =
      .ok .nx [.val (pieceD p), .val (.int many), .own false ((rows ++ qs.flatMap fun place : Nat => (List.range p.kinds).map fun k : Nat => ringRow p many place k).map rowD), t3, .no] := by
    intro qs
    induction qs with
    | nil => exact fun rows s3 _ _ => ⟨s3, by simp [forL]⟩
    | cons q qs ih =>
      intro rows s3 hq hl
      rw [List.length_cons, Nat.succ_mul] at hl
      have q1 := hq q List.mem_cons_self
      obtain ⟨t3, ih⟩ := ih (rows ++ (List.range p.kinds).map fun k : Nat => ringRow p many q k) (.val (.int q)) (fun x hx => hq x (List.mem_cons_of_mem _ hx)) (by rw [List.length_append, List.length_map, List.length_range]; omega)
      refine ⟨t3, ?_⟩
      have lc : lcL (pNm 4) bYes (e1_ring_table 0) [4] (rngD 0 p.kinds) [.val (pieceD p), .val (.int many), .own false (rows.map rowD), .val (.int q), .no] = .ok (((List.range p.kinds).map fun k : Nat => ringRow p many q k).map rowD) [.val (pieceD p), .val (.int many), .own false (rows.map rowD), .val (.int q), .no] := by
        rw [rng_map, List.map_map]
        exact lcL_each (pat := pNm 4) (el := e1_ring_table 0) (vs := [4]) (fun k : Nat => PyData.int (k : Int)) (fun k => rowD (ringRow p many q k)) (List.range p.kinds) fun k hk' => ⟨_, _, rfl, rfl, by
          have rk := ring_row_ok P hK h0 hm hk q1 (List.mem_range.mp hk')
          generalize pieceD p = pd at rk ⊢
          unfold e1_ring_table
          simp [rk]⟩
      have e2 : b1_ring_table 0 [.val (pieceD p), .val (.int many), .own false (rows.map rowD), .val (.int q), .no] =
          .ok .nx [.val (pieceD p), .val (.int many), .own false ((rows ++ (List.range p.kinds).map fun k : Nat => ringRow p many q k).map rowD), .val (.int q), .no] := by
        rw [List.map_append]
        have l1 : (rows.map rowD).length + (((List.range p.kinds).map fun k : Nat => ringRow p many q k).map rowD).length ≤ 1000000 := by simp only [List.length_map, List.length_range]; omega
        have lr : (rngD 0 p.kinds).length ≤ 1000000 := by rw [rng_map, List.length_map, List.length_range]; omega
        have pd : pieceD p = .tuple [.int p.kinds, .tuple (p.sides.map psD), .tuple (p.rights.map rtD)] := rfl
        rw [pd] at lc ⊢
        generalize ((List.range p.kinds).map fun k : Nat => ringRow p many q k).map rowD = nr at lc l1 ⊢
        generalize rows.map rowD = rw2 at lc l1 ⊢
        generalize p.sides.map psD = sd at lc at0 ⊢
        generalize p.rights.map rtD = rd at lc at0 ⊢
        simp [b1_ring_table, rngk, at0, noOwn, wipeE, lc, backE, l1, lr, lim_is]
      rw [List.map_cons, forL]
      show (match b1_ring_table 0 _ with
        | .ok .nx e2 => forL (pNm 3) (b1_ring_table 0) (qs.map fun k : Nat => PyData.int (k : Int)) e2
        | .ok .ct e2 => forL (pNm 3) (b1_ring_table 0) (qs.map fun k : Nat => PyData.int (k : Int)) e2
        | .ok .bk e2 => .ok .nx e2
        | .ok (.rt r) e2 => .ok (.rt r) e2
        | .exc c fs e2 => .exc c fs e2
        | .bad => .bad) = _
      simp only [List.set]
      rw [e2]
      dsimp only
      rw [ih, List.flatMap_cons, List.append_assoc]
  obtain ⟨t3, e1⟩ := stp (List.range many) [] .no (fun q h => by have := List.mem_range.mp h; omega) (by rw [List.length_range]; simp; omega)
  rw [← rng_map, List.nil_append] at e1
  have mo : mulOk (many : Int) (p.kinds : Int) := .inr (.inl ⟨by omega, by omega⟩)
  have td : tabD (ringT p many) = .tuple [.int ((many : Int) * p.kinds), .tuple ((ringRows p many).map rowD)] := by
    show PyData.tuple [.int ((many * p.kinds : Nat) : Int), _] = _
    rw [Int.natCast_mul]; rfl
  rw [td]
  have e1 : forL _ _ _ _ = R.ok Fl.nx [.val (pieceD p), .val (.int many), .own false ((ringRows p many).map rowD), t3, .no] := e1
  simp only [List.map_nil] at e1
  have pd : pieceD p = .tuple [.int p.kinds, .tuple (p.sides.map psD), .tuple (p.rights.map rtD)] := rfl
  rw [pd] at e1 ⊢
  generalize (ringRows p many).map rowD = rw2 at e1 ⊢
  generalize p.sides.map psD = sd at e1 at0 ⊢
  generalize p.rights.map rtD = rd at e1 at0 ⊢
  simp only [m_ring_table, runM, g_ring_table, List.length_cons, List.length_nil, if_true]
  simp [startE, rngm, e1, mo, at0, lim_is]
end Rg

namespace Rg
open PySem Mv Sh Fr
/-! ### bounds and sides among any values -/
def bndB : D → Bool
  | .tuple [.int a, .int b] => decide (0 ≤ a) && decide (a ≤ b)
  | _ => false
theorem bndB_ni {x y : D} (h : ¬ (isInt x = true ∧ isInt y = true)) : bndB (.tuple [x, y]) = false := by
  cases x <;> first | rfl | (cases y <;> first | rfl | exact absurd ⟨rfl, rfl⟩ h)
theorem law_bounds_any (d : D) : m__law_is_bounds [d] = some (.ret (.val (.bool (bndB d)))) := by
  have hm := m_integer_any
  simp only [m__law_is_bounds, runM, g__law_is_bounds, List.length_cons, List.length_nil, if_true]
  match d with
  | .none => simp [startE, isTup, bndB]
  | .bool _ => simp [startE, isTup, bndB]
  | .int _ => simp [startE, isTup, bndB]
  | .str _ => simp [startE, isTup, bndB]
  | .list _ => simp [startE, isTup, bndB]
  | .dict _ => simp [startE, isTup, bndB]
  | .tuple [] => simp [startE, isTup, bndB]
  | .tuple [_] => simp [startE, isTup, bndB]
  | .tuple (_ :: _ :: _ :: l) =>
    have : ¬ ((l.length : Int) + 1 + 1 + 1 = 2) := by omega
    simp [startE, isTup, bndB, this]
  | .tuple [x, y] =>
    by_cases hx : isInt x = true
    · obtain ⟨i, rfl⟩ := isInt_of hx
      by_cases hy : isInt y = true
      · obtain ⟨j, rfl⟩ := isInt_of hy
        by_cases h0 : 0 ≤ i
        · simp [startE, isTup, bndB, hm, h0]
        · simp [startE, isTup, bndB, hm, h0]
      · have hf := bndB_ni (x := .int i) (y := y) (fun z => hy z.2)
        simp [startE, isTup, hf, hm, hy]
    · have hf := bndB_ni (x := x) (y := y) (fun z => hx z.1)
      simp [startE, isTup, hf, hm, hx]
theorem bounds_any (d : D) : m_is_bounds [d] = some (.ret (.val (.bool (bndB d)))) := by
  have hm := m_is_integer_any
  have ht : ∀ (e : D) (n : Int), m_is_tuple_of [e, .int n] = some (.ret (.val (.bool (isTup e && decide (tlen e = n))))) := m_tuple_of_any
  simp only [m_is_bounds, runM, g_is_bounds, List.length_cons, List.length_nil, if_true]
  match d with
  | .none => simp [startE, isTup, bndB, ht]
  | .bool _ => simp [startE, isTup, bndB, ht]
  | .int _ => simp [startE, isTup, bndB, ht]
  | .str _ => simp [startE, isTup, bndB, ht]
  | .list _ => simp [startE, isTup, bndB, ht]
  | .dict _ => simp [startE, isTup, bndB, ht]
  | .tuple [] => simp [startE, isTup, bndB, ht, tlen]
  | .tuple [_] => simp [startE, isTup, bndB, ht, tlen]
  | .tuple (_ :: _ :: _ :: l) =>
    have : ¬ ((l.length : Int) + 1 + 1 + 1 = 2) := by omega
    simp [startE, isTup, bndB, ht, tlen, this]
  | .tuple [x, y] =>
    by_cases hx : isInt x = true
    · obtain ⟨i, rfl⟩ := isInt_of hx
      by_cases hy : isInt y = true
      · obtain ⟨j, rfl⟩ := isInt_of hy
        by_cases h0 : 0 ≤ i
        · simp [startE, isTup, bndB, ht, tlen, hm, h0]
        · simp [startE, isTup, bndB, ht, tlen, hm, h0]
      · have hf := bndB_ni (x := .int i) (y := y) (fun z => hy z.2)
        simp [startE, isTup, hf, ht, tlen, hm, hy]
    · have hf := bndB_ni (x := x) (y := y) (fun z => hx z.1)
      simp [startE, isTup, hf, ht, tlen, hm, hx]
def kndB (k : Int) : D → Bool
  | .int i => decide (0 ≤ i) && decide (i < k)
  | _ => false
theorem kind_any (k : Int) (d : D) : m_is_kind [.int k, d] = some (.ret (.val (.bool (kndB k d)))) := by
  have hm := m_is_integer_any d
  simp only [m_is_kind, runM, g_is_kind, List.length_cons, List.length_nil, if_true]
  cases hi : isInt d with
  | true =>
    obtain ⟨i, rfl⟩ := isInt_of hi
    rw [hi] at hm
    by_cases h0 : 0 ≤ i
    · simp [startE, hm, kndB, h0]
    · simp [startE, hm, kndB, h0]
  | false =>
    rw [hi] at hm
    have : kndB k d = false := by
      cases d <;> first | rfl | cases hi
    simp [startE, hm, this]
def shfB : D → Bool
  | .int i => decide (-3 ≤ i) && decide (i ≤ 3)
  | _ => false
def sideB (k : Int) : D → Bool
  | .tuple [r, u, s, l, h] => bndB (.tuple [l, h]) && (kndB k r && (kndB k u && shfB s))
  | _ => false
theorem side_any (k : Int) (d : D) : m_is_piece_side [.int k, d] = some (.ret (.val (.bool (sideB k d)))) := by
  have hm := m_is_integer_any
  have hb := bounds_any
  have hk := kind_any
  simp only [m_is_piece_side, runM, g_is_piece_side, List.length_cons, List.length_nil, if_true]
  match d with
  | .none => simp [startE, isTup, sideB]
  | .bool _ => simp [startE, isTup, sideB]
  | .int _ => simp [startE, isTup, sideB]
  | .str _ => simp [startE, isTup, sideB]
  | .list _ => simp [startE, isTup, sideB]
  | .dict _ => simp [startE, isTup, sideB]
  | .tuple [] => simp [startE, isTup, sideB]
  | .tuple [_] => simp [startE, isTup, sideB]
  | .tuple [_, _] => simp [startE, isTup, sideB]
  | .tuple [_, _, _] => simp [startE, isTup, sideB]
  | .tuple [_, _, _, _] => simp [startE, isTup, sideB]
  | .tuple (_ :: _ :: _ :: _ :: _ :: _ :: l) =>
    have : ¬ ((l.length : Int) + 1 + 1 + 1 + 1 + 1 + 1 = 5) := by omega
    simp [startE, isTup, sideB, this]
  | .tuple [r, u, s, l, h] =>
    have c1 : ∀ s : D, cutD [r, u, s, l, h] (some 3) none = [l, h] := fun _ => rfl
    have c2 : ∀ s : D, cutD [r, u, s, l, h] none (some 3) = [r, u, s] := fun _ => rfl
    unfold sideB
    cases h1 : bndB (.tuple [l, h]) with
    | false => simp [startE, c1, hb, h1]
    | true =>
      cases h2 : kndB k r with
      | false => simp [startE, c1, c2, hb, h1, hk, h2]
      | true =>
        cases h3 : kndB k u with
        | false => simp [startE, c1, c2, hb, h1, hk, h2, h3]
        | true =>
          cases hi : isInt s with
          | false =>
            have : shfB s = false := by cases s <;> first | rfl | cases hi
            simp [startE, c1, c2, hb, h1, hk, h2, h3, hm, hi, this]
          | true =>
            obtain ⟨i, rfl⟩ := isInt_of hi
            by_cases h4 : -3 ≤ i
            · simp [startE, c1, c2, hb, h1, hk, h2, h3, hm, h4, shfB, isInt]
            · simp [startE, c1, c2, hb, h1, hk, h2, h3, hm, h4, shfB, isInt]
end Rg

namespace Rg
open PySem Mv Sh Fr
/-! ### PIECES among any values -/
def srtB (ss : List D) : Bool := PyData.eqv (.list ss) (.list (sortD ss))
def pcB : D → Bool
  | .tuple [.int k, .tuple ss, .tuple rr] => (decide (1 ≤ k) && decide (k ≤ 3)) && (ss.all (sideB k) && (srtB ss && (decide ((rr.length : Int) = k) && rr.all bndB)))
  | _ => false
theorem knd_int {k : Int} {d : D} (h : kndB k d = true) : ∃ i, d = .int i := by cases d <;> first | exact ⟨_, rfl⟩ | cases h
theorem side_ps {k : Int} {d : D} (h : sideB k d = true) : ∃ s : PSide, d = psD s := by
  unfold sideB at h
  split at h
  · rename_i r u s l hh
    rw [Bool.and_eq_true, Bool.and_eq_true, Bool.and_eq_true] at h
    obtain ⟨h1, h2, h3, h4⟩ := h
    obtain ⟨r, rfl⟩ := knd_int h2
    obtain ⟨u, rfl⟩ := knd_int h3
    have : isInt l = true ∧ isInt hh = true := by
      apply Classical.byContradiction
      intro z
      rw [bndB_ni z] at h1
      cases h1
    obtain ⟨l, rfl⟩ := isInt_of this.1
    obtain ⟨hh, rfl⟩ := isInt_of this.2
    cases s <;> first | exact ⟨⟨_, _, _, _, _⟩, rfl⟩ | cases h4
  · cases h
theorem sides_ps {k : Int} : ∀ {ss : List D}, ss.all (sideB k) = true → ∃ ps : List PSide, ss = ps.map psD
  | [], _ => ⟨[], rfl⟩
  | s :: ss, h => by
    rw [List.all_cons,
                                                                                                                  Bool.and_eq_true] at h
    obtain ⟨p, rfl⟩ := side_ps h.1
    obtain ⟨ps, rfl⟩ := sides_ps h.2
    exact ⟨p :: ps, rfl⟩
theorem side_no {k : Int} {r u s l h : D} (n : ¬ (isInt r = true ∧ isInt u = true ∧ isInt s = true ∧ isInt l = true ∧ isInt h = true)) : sideB k (.tuple [r, u, s, l, h]) = false := by
  rw [← Bool.not_eq_true]
  intro c
  obtain ⟨p, hp⟩ := side_ps c
  cases hp
  exact n ⟨rfl, rfl, rfl, rfl, rfl⟩
theorem law_side {k : Int} (s0 s2 s3 : Sl) (x : D) :
    (sideB k x = true → b1__law_is_piece 0 [s0, .val (.int k), s2, s3, .val x, .no, .no] = .ok .nx [s0, .val (.int k), s2, s3, .val x, .no, .no]) ∧
    (sideB k x = false → b1__law_is_piece 0 [s0, .val (.int k), s2, s3, .val x, .no, .no] = .ok (.rt (.val (.bool false))) [s0, .val (.int k), s2, s3, .val x, .no, .no]) := by
  have hb := law_bounds_any
  have lc : ∀ ds : List D, lcL (pNm 6) (t2__law_is_piece 0) (vVar 6) [6] ds [s0, .val (.int k), s2, s3, .val x, .no, .no] = .ok (ds.filter fun g => !isInt g) [s0, .val (.int k), s2, s3, .val x, .no, .no] := fun ds => by
    have := lcL_keep (pat := pNm 6) (tt := t2__law_is_piece 0) (el := vVar 6) (vs := [6]) (e := [s0, .val (.int k), s2, s3, .val x, .no, .no]) id (fun g => !isInt g) id ds fun g hg => ⟨_, _, rfl, rfl, by
      have i1 := m_integer_any g
      show t2__law_is_piece 0 [s0, .val (.int k), s2, s3, .val x, .no, .val g] = .ok (!isInt g) _
      unfold t2__law_is_piece
      simp [i1], fun _ => by simp⟩
    rw [List.map_id, List.map_id] at this
    exact this
  match x with
  | .none => exact ⟨fun c => (by cases c), fun _ => (by simp [b1__law_is_piece, isTup])⟩
  | .bool _ => exact ⟨fun c => (by cases c), fun _ => (by simp [b1__law_is_piece, isTup])⟩
  | .int _ => exact ⟨fun c => (by cases c), fun _ => (by simp [b1__law_is_piece, isTup])⟩
  | .str _ => exact ⟨fun c => (by cases c), fun _ => (by simp [b1__law_is_piece, isTup])⟩
  | .list _ => exact ⟨fun c => (by cases c), fun _ => (by simp [b1__law_is_piece, isTup])⟩
  | .dict _ => exact ⟨fun c => (by cases c), fun _ => (by simp [b1__law_is_piece, isTup])⟩
  | .tuple ds =>
    by_cases h5 : ds.length = 5
    · match ds, h5 with
      | [r, u, s, l, h], _ =>
        have lc := lc [r, u, s, l, h]
        have ne := ne_nil_any ([r, u, s, l, h].filter fun g => !isInt g)
        have l5 : 5 ≤ LIM := by decide
        by_cases hi : isInt r = true ∧ isInt u = true ∧ isInt s = true ∧ isInt l = true ∧ isInt h = true
        · obtain ⟨h1, h2, h3, h4, h6⟩ := hi
          have ef : ([r, u, s, l, h].filter fun g => !isInt g) = [] := by simp [h1, h2, h3, h4, h6]
          rw [ef] at lc ne
          obtain ⟨r, rfl⟩ := isInt_of h1
          obtain ⟨u, rfl⟩ := isInt_of h2
          obtain ⟨s, rfl⟩ := isInt_of h3
          obtain ⟨l, rfl⟩ := isInt_of h4
          obtain ⟨h, rfl⟩ := isInt_of h6
          have c1 : cutD [PyData.int r, .int u, .int s, .int l, .int h] (some 3) none = [.int l, .int h] := rfl
          have a0 : L2.atI [PyData.int r, .int u, .int s, .int l, .int h] 0 = some (.int r) := rfl
          have a1 : L2.atI [PyData.int r, .int u, .int s, .int l, .int h] 1 = some (.int u) := rfl
          have a2 : L2.atI [PyData.int r, .int u, .int s, .int l, .int h] 2 = some (.int s) := rfl
          have es : sideB k (.tuple [.int r, .int u, .int s, .int l, .int h]) = (bndB (.tuple [.int l, .int h]) && ((decide (0 ≤ r) && decide (r < k)) && ((decide (0 ≤ u) && decide (u < k)) && (decide (-3 ≤ s) && decide (s ≤ 3))))) := rfl
          rw [es]
          have hb := hb (.tuple [.int l, .int h])
          generalize bndB (.tuple [.int l, .int h]) = B at hb ⊢
          refine ⟨fun c =>
                                                                                                                        ?_, fun c => ?_⟩
          · simp only [Bool.and_eq_true, decide_eq_true_eq] at c
            obtain ⟨rfl, ⟨x1, x2⟩, ⟨x3, x4⟩, x5, x6⟩ := c
            unfold b1__law_is_piece
            simp [noOwn, wipeE, lc, backE, l5, ne, a0, a1, a2, c1, hb, x1, x2, x3, x4, x5, x6]
          · unfold b1__law_is_piece
            by_cases x1 : 0 ≤ r
            · by_cases x2 : r < k
              · by_cases x3 : 0 ≤ u
                · by_cases x4 : u < k
                  · by_cases x5 : -3 ≤ s
                    · by_cases x6 : s ≤ 3
                      · have : B = false := by simpa [x1, x2, x3, x4, x5, x6] using c
                        subst this
                        simp [noOwn, wipeE, lc, backE, l5, ne, a0, a1, a2, c1, hb, x1, x2, x3, x4, x5, x6]
                      · simp [noOwn, wipeE, lc, backE, l5, ne, a0, a1, a2, x1, x2, x3, x4, x5, x6]
                    · simp [noOwn, wipeE, lc, backE, l5, ne, a0, a1, a2, x1, x2, x3, x4, x5]
                  · simp [noOwn, wipeE, lc, backE, l5, ne, a0, a1, x1, x2, x3, x4]
                · simp [noOwn, wipeE, lc, backE, l5, ne, a0, a1, x1, x2, x3]
              · simp [noOwn, wipeE, lc, backE, l5, ne, a0, x1, x2]
            · simp [noOwn, wipeE, lc, backE, l5, ne, a0, x1]
        · rw [side_no hi]
          refine ⟨fun c => (by cases c), fun _ => ?_⟩
          have nf : ([r, u, s, l, h].filter fun g => !isInt g).isEmpty = false := by
            rw [← Bool.not_eq_true, List.isEmpty_iff, List.filter_eq_nil_iff]
            intro c
            apply hi
            simpa using c
          rw [nf] at ne
          generalize ([r, u, s, l, h].filter fun g => !isInt g) = fl at lc ne
          unfold b1__law_is_piece
          simp [noOwn, wipeE, lc, backE, l5, ne]
    · have no : sideB k (.tuple ds) = false := by
        unfold sideB
        split
        · rename_i e; cases e; exact absurd rfl h5
        · rfl
      rw [no]
      have h5' : ¬ ((ds.length : Int) = 5) := by omega
      exact ⟨fun c => (by cases c), fun _ => by simp [b1__law_is_piece, h5']⟩
end Rg

namespace Rg
open PySem Mv Sh Fr
theorem lays_of : ∀ {ds : List D}, (∀ d ∈ ds, d.canLay0 = true) → PyData.canLayAll0 ds = true
  | [], _ => by simp only [PyData.canLayAll0]
  | d :: ds, h => by simp only [PyData.canLayAll0, h d List.mem_cons_self, lays_of fun x hx => h x (List.mem_cons_of_mem _ hx), Bool.and_self]
theorem shaped_ps (ps : List PSide) : SeqAt.shaped (.list (ps.map psD)) = true := by
  have h1 : PyData.canLayAll0 (ps.map psD) = true := lays_of fun d hd => by
    obtain ⟨s, _, rfl⟩ := List.mem_map.mp hd
    simp [psD, PyData.canLay0, PyData.canLayAll0]
  have h2 : (PyData.list (ps.map psD)).depth ≤ 64 := by
    have := depth_map (enc := psD) (k := 1) (fun s => Nat.le_of_eq (ps_depth s)) ps
    simp only [PyData.depth]
    omega
  show (PyData.canLay0 (.list (ps.map psD)) && decide _) = true
  rw [decide_eq_true h2, Bool.and_true]
  simpa only [PyData.canLay0] using h1
theorem srt_ne (ps : List PSide) : dNe (.list (ps.map psD)) (.list (sortD (ps.map psD))) = some (.val (.bool (!srtB (ps.map psD)))) := by
  unfold srtB
  rw [sortD_ps, dNe]
  · rw [if_pos ⟨shaped_ps _, shaped_ps _⟩]
  · intro _ _ h; cases h
theorem srt_eq (ps : List PSide) : dEq (.list (ps.map psD)) (.list (sortD (ps.map psD))) = some (.val (.bool (srtB (ps.map psD)))) := by
  unfold srtB
  rw [sortD_ps, dEq]
  · rw [if_pos ⟨shaped_ps _, shaped_ps _⟩]
  · intro _ _ h; cases h
structure Gp (d : D) : Prop where
  pl : ∀ k ss rr, d = .tuple [k, .tuple ss, .tuple rr] → ss.length ≤ 1000000 ∧ rr.length ≤ 1000000
theorem pcB_three {ds : List D} (h : ds.length ≠ 3) : pcB (.tuple ds) = false := by
  unfold pcB
  split
  · rename_i e; cases e; exact absurd rfl h
  · rfl
theorem pcB_k {a b c : D} (h : isInt a = false) : pcB (.tuple [a, b, c]) = false := by
  cases a <;> first | rfl | cases h
theorem pcB_s {a b c : D} (h : isTup b = false) : pcB (.tuple [a, b, c]) = false := by
  unfold pcB
  split
  · rename_i e; cases e; cases h
  · rfl
theorem pcB_r {a b c : D} (h : isTup c = false) : pcB (.tuple [a, b, c]) = false := by
  unfold pcB
  split
  · rename_i e; cases e; cases h
  · rfl
theorem isTup_of {x : D} (h : isTup x = true) : ∃ ds, x = .tuple ds := by
  cases x <;> first | exact ⟨_, rfl⟩ | cases h
theorem is_piece_any {d : D} (G : Gp d) : m_is_piece [d] = some (.ret (.val (.bool (pcB d)))) := by
  have hm := m_is_integer_any
  match d, G with
  | .none, _ => simp [m_is_piece, runM, g_is_piece, s1_is_piece, startE, isTup, pcB]
  | .bool _, _ => simp [m_is_piece, runM, g_is_piece, s1_is_piece, startE, isTup, pcB]
  | .int _, _ => simp [m_is_piece, runM, g_is_piece, s1_is_piece, startE, isTup, pcB]
  | .str _, _ => simp [m_is_piece, runM, g_is_piece, s1_is_piece, startE, isTup, pcB]
  | .list _, _ => simp [m_is_piece, runM, g_is_piece, s1_is_piece, startE, isTup, pcB]
  | .dict _, _ => simp [m_is_piece, runM, g_is_piece, s1_is_piece, startE, isTup, pcB]
  | .tuple ds, G =>
    by_cases h3 : ds.length = 3
    · match ds, h3, G with
      | [a, b, c], _, G =>
        cases ha : isInt a with
        | false =>
          rw [pcB_k ha]
          simp [m_is_piece, runM, g_is_piece, s1_is_piece, s2_is_piece, startE, hm, ha]
        | true =>
          obtain ⟨k, rfl⟩ := isInt_of ha
          by_cases h1 : 1 ≤ k
          case neg =>
            have : pcB (.tuple [.int k, b, c]) = false := by
              cases b <;> first | rfl | skip
              cases c <;> first | rfl | skip
              simp [pcB, h1]
            rw [this]
            simp [m_is_piece, runM, g_is_piece, s1_is_piece, s2_is_piece, startE, hm, ha, h1]
          case pos =>
            by_cases h2 : k ≤ 3
            case neg =>
              have : pcB (.tuple [.int k, b, c]) = false := by
                cases b <;> first | rfl | skip
                cases c <;> first | rfl | skip
                simp [pcB, h2]
              rw [this]
              simp [m_is_piece, runM, g_is_piece, s1_is_piece, s2_is_piece, startE, hm, ha, h1, h2]
            case pos =>
              cases hb : isTup b with
              | false =>
                rw [pcB_s hb]
                simp [m_is_piece, runM, g_is_piece, s1_is_piece, s2_is_piece, startE, hm, ha, h1, h2, hb]
              | true =>
                cases hc : isTup c with
                | false =>
                  rw [pcB_r hc]
                  simp [m_is_piece, runM, g_is_piece, s1_is_piece, s2_is_piece, startE, hm, ha, h1, h2, hb, hc]
                | true =>
                  obtain ⟨ss, rfl⟩ := isTup_of hb
                  obtain ⟨rr, rfl⟩ := isTup_of hc
                  obtain ⟨l1, l2⟩ := G.pl _ _ _ rfl
                  have lc1 : ∀ s0 s2 s3 : Sl, lcL (pNm 5) bYes (e1_is_piece 0) [5] ss [s0, .val (.int k), s2, s3, .no, .no] = .ok (ss.map fun x => .bool (sideB k x)) [s0, .val (.int k), s2, s3, .no, .no] := fun s0 s2 s3 => by
                    have := lcL_each (pat := pNm 5) (el := e1_is_piece 0) (vs := [5]) (e := [s0, .val (.int k), s2, s3, .no, .no]) id (fun x => .bool (sideB k x)) ss fun x hx => ⟨_, _, rfl, rfl, by
                      have := side_any k x
                      unfold e1_is_piece
                      simp [this]⟩
                    rw [List.map_id] at this
                    exact this
                  have al1 := all_of (sideB k) ss
                  have lc2 : ∀ s0 s2 s3 : Sl, lcL (pNm 4) bYes (e2_is_piece 0) [4] rr [s0, .val (.int k), s2, s3, .no, .no] = .ok (rr.map fun x => .bool (bndB x)) [s0, .val (.int k), s2, s3, .no, .no] := fun s0 s2 s3 => by
                    have := lcL_each (pat := pNm 4) (el := e2_is_piece 0) (vs := [4]) (e := [s0, .val (.int k), s2, s3, .no, .no]) id (fun x => .bool (bndB x)) rr fun x hx => ⟨_, _, rfl, rfl, by
                      have := bounds_any x
                      unfold e2_is_piece
                      simp [this]⟩
                    rw [List.map_id] at this
                    exact this
                  have al2 := all_of bndB rr
                  have sl : ss.length ≤ LIM := by unfold LIM; omega
                  have rl : rr.length ≤ LIM := by unfold LIM; omega
                  have hk1 : decide (1 ≤ k) = true := decide_eq_true h1
                  have hk2 : decide (k ≤ 3) = true := decide_eq_true h2
                  have ep : pcB (.tuple [.int k, .tuple ss, .tuple rr]) = ((decide (1 ≤ k) && decide (k ≤ 3)) && (ss.all (sideB k) && (srtB ss && (decide ((rr.length : Int) = k) && rr.all bndB)))) := rfl
                  rw [ep, hk1, hk2, Bool.true_and, Bool.true_and]
                  cases hs : ss.all (sideB k) with
                  | false =>
                    rw [hs] at al1
                    rw [Bool.false_and]
                    simp [m_is_piece, runM, g_is_piece, s1_is_piece, s2_is_piece, s3_is_piece, startE, hm, ha, h1, h2, noOwn, wipeE, lc1, backE, sl, al1]
                  | true =>
                    rw [hs] at al1
                    rw [Bool.true_and]
                    obtain ⟨ps, rfl⟩ := sides_ps hs
                    have sb := sortB_ps ps
                    have so := sorted_t sb
                    have ne := srt_ne ps
                    cases hr : srtB (ps.map psD) with
                    | false =>
                      rw [hr] at ne
                      rw [Bool.false_and]
                      generalize ps.map psD = ss at *
                      simp [m_is_piece, runM, g_is_piece, s1_is_piece, s2_is_piece, s3_is_piece, startE, hm, ha, h1, h2, noOwn, wipeE, lc1, backE, sl, al1, so, ne]
                    | true =>
                      rw [hr] at ne
                      rw [Bool.true_and]
                      by_cases hl : (rr.length : Int) = k
                      · rw [decide_eq_true hl, Bool.true_and]
                        generalize ps.map psD = ss at *
                        simp [m_is_piece, runM, g_is_piece, s1_is_piece, s2_is_piece, s3_is_piece, s4_is_piece, startE, hm, ha, h1, h2, noOwn, wipeE, lc1, backE, sl, al1, so, ne, hl, lc2, al2, rl]
                      · rw [decide_eq_false hl, Bool.false_and]
                        generalize ps.map psD = ss at *
                        simp [m_is_piece, runM, g_is_piece, s1_is_piece, s2_is_piece, s3_is_piece, s4_is_piece, startE, hm, ha, h1, h2, noOwn, wipeE, lc1, backE, sl, al1, so, ne, hl]
    · rw [pcB_three h3]
      have h3' : ¬ ((ds.length : Int) = 3) := by omega
      simp [m_is_piece, runM, g_is_piece, s1_is_piece, startE, h3']
end Rg

namespace Rg
open PySem Mv Sh Fr
theorem law_piece_any {d : D} (G : Gp d) : m__law_is_piece [d] = some (.ret (.val (.bool (pcB d)))) := by
  have hm := m_integer_any
  match d, G with
  | .none, _ => simp [m__law_is_piece, runM, g__law_is_piece, s1__law_is_piece, startE, isTup, pcB]
  | .bool _, _ => simp [m__law_is_piece, runM, g__law_is_piece, s1__law_is_piece, startE, isTup, pcB]
  | .int _, _ => simp [m__law_is_piece, runM, g__law_is_piece, s1__law_is_piece, startE, isTup, pcB]
  | .str _, _ => simp [m__law_is_piece, runM, g__law_is_piece, s1__law_is_piece, startE, isTup, pcB]
  | .list _, _ => simp [m__law_is_piece, runM, g__law_is_piece, s1__law_is_piece, startE, isTup, pcB]
  | .dict _, _ => simp [m__law_is_piece, runM, g__law_is_piece, s1__law_is_piece, startE, isTup, pcB]
  | .tuple ds, G =>
    by_cases h3 : ds.length = 3
    · match ds, h3, G with
      | [a, b, c], _, G =>
        cases ha : isInt a with
        | false =>
          rw [pcB_k ha]
          have a0 : L2.atI [a, b, c] 0 = some a := rfl
          simp [m__law_is_piece, runM, g__law_is_piece, s1__law_is_piece, startE, hm, ha, a0]
        | true =>
          obtain ⟨k, rfl⟩ := isInt_of ha
          have a0 : ∀ b c : D, L2.atI [.int k, b, c] 0 = some (.int k) := fun _ _ => rfl
          by_cases h1 : 1 ≤ k
          case neg =>
            have : pcB (.tuple [.int k, b, c]) = false := by
              cases b <;> first | rfl | skip
              cases c <;> first | rfl | skip
              simp [pcB, h1]
            rw [this]
            simp [m__law_is_piece, runM, g__law_is_piece, s1__law_is_piece, startE, hm, ha, h1, a0]
          case pos =>
            by_cases h2 : k ≤ 3
            case neg =>
              have : pcB (.tuple [.int k, b, c]) = false := by
                cases b <;> first | rfl | skip
                cases c <;> first | rfl | skip
                simp [pcB, h2]
              rw [this]
              simp [m__law_is_piece, runM, g__law_is_piece, s1__law_is_piece, startE, hm, ha, h1, h2, a0]
            case pos =>
              cases hb : isTup b with
              | false =>
                rw [pcB_s hb]
                simp [m__law_is_piece, runM, g__law_is_piece, s1__law_is_piece, s2__law_is_piece, startE, hm, ha, h1, h2, hb, a0]
              | true =>
                cases hc : isTup c with
                | false =>
                  rw [pcB_r hc]
                  simp [m__law_is_piece, runM, g__law_is_piece, s1__law_is_piece, s2__law_is_piece, startE, hm, ha, h1, h2, hb, hc, a0]
                | true =>
                  obtain ⟨ss, rfl⟩ := isTup_of hb
                  obtain ⟨rr, rfl⟩ := isTup_of hc
                  obtain ⟨l1, l2⟩ := G.pl _ _ _ rfl
                  have lc2 : ∀ s0 s1 s2 s3 s4 s6 : Sl, lcL (pNm 5) (t1__law_is_piece 0) (vVar 5) [5] rr [s0, s1, s2, s3, s4, .no, s6] = .ok (rr.filter fun x => !bndB x) [s0, s1, s2, s3, s4, .no, s6] := fun s0 s1 s2 s3 s4 s6 => by
                    have := lcL_keep (pat := pNm 5) (tt := t1__law_is_piece 0) (el := vVar 5) (vs := [5]) (e := [s0, s1, s2, s3, s4, .no, s6]) id (fun x => !bndB x) id rr fun x hx => ⟨_, _, rfl, rfl, by
                      have := law_bounds_any x
                      show t1__law_is_piece 0 [s0, s1, s2, s3, s4, .val x, s6] = .ok (!bndB x) _
                      unfold t1__law_is_piece
                      simp [this], fun _ => by simp⟩
                    rw [List.map_id, List.map_id] at this
                    exact this
                  have ne2 := ne_nil_any (rr.filter fun x => !bndB x)
                  have e2 : (rr.filter fun x => !bndB x).isEmpty = rr.all bndB := by
                    rw [Bool.eq_iff_iff, List.isEmpty_iff, List.filter_eq_nil_iff, List.all_eq_true]
                    simp
                  rw [e2] at ne2
                  obtain ⟨e', lp, hi⟩ := for_test (pat := pNm 4) (b := b1__law_is_piece 0) id (sideB k) (.val (.bool false)) (fun e => ∃ s4, e = [.val (.tuple [.int k, .tuple ss, .tuple rr]), .val (.int k), .val (.tuple ss), .val (.tuple rr), s4, .no, .no]) ss
                    [.val (.tuple [.int k, .tuple ss, .tuple rr]), .val (.int k), .val (.tuple ss), .val (.tuple rr), .no, .no, .no] (fun x hx e ⟨s4, he⟩ => by
                      subst he
                      obtain ⟨p1, p2⟩ := law_side (k := k) (.val (.tuple [.int k, .tuple ss, .tuple rr])) (.val (.tuple ss)) (.val (.tuple rr)) x
                      exact ⟨_, _, rfl, fun h => ⟨p1 h, _, rfl⟩, fun h => p2 h⟩) ⟨_, rfl⟩
                  rw [List.map_id] at lp
                  have sl : ss.length ≤ LIM := by unfold LIM; omega
                  have rl : rr.length ≤ LIM := by unfold LIM; omega
                  have hk1 : decide (1 ≤ k) = true := decide_eq_true h1
                  have hk2 : decide (k ≤ 3) = true := decide_eq_true h2
                  have ep : pcB (.tuple [.int k, .tuple ss, .tuple rr]) = ((decide (1 ≤ k) && decide (k ≤ 3)) && (ss.all (sideB k) && (srtB ss && (decide ((rr.length : Int) = k) && rr.all bndB)))) := rfl
                  rw [ep, hk1, hk2, Bool.true_and, Bool.true_and]
                  by_cases hl : (rr.length : Int) = k
                  case neg =>
                    rw [decide_eq_false hl, Bool.false_and, Bool.and_false, Bool.and_false]
                    simp [m__law_is_piece, runM, g__law_is_piece, s1__law_is_piece, s2__law_is_piece, startE, hm, ha, h1, h2, a0, hl]
                  case pos =>
                    rw [decide_eq_true hl, Bool.true_and]
                    cases hr : rr.all bndB with
                    | false =>
                      rw [hr] at ne2
                      rw [Bool.and_false, Bool.and_false]
                      generalize (rr.filter fun x => !bndB x) = fl at *
                      simp [m__law_is_piece, runM, g__law_is_piece, s1__law_is_piece, s2__law_is_piece, s3__law_is_piece, startE, hm, ha, h1, h2, a0, hl, noOwn, wipeE, lc2, backE, rl, ne2]
                    | true =>
                      rw [hr] at ne2
                      rw [Bool.and_true]
                      cases hs : ss.all (sideB k) with
                      | false =>
                        rw [hs] at lp
                        simp only [Bool.false_eq_true, if_false] at lp
                        rw [Bool.false_and]
                        generalize (rr.filter fun x => !bndB x) = fl at *
                        simp [m__law_is_piece, runM, g__law_is_piece, s1__law_is_piece, s2__law_is_piece, s3__law_is_piece, startE, hm, ha, h1, h2, a0, hl, noOwn, wipeE, lc2, backE, rl, ne2, sl, lp, outOf]
                      | true =>
                        rw [hs] at lp
                        obtain ⟨s4, rfl⟩ := hi hs
                        simp only [if_true] at lp
                        rw [Bool.true_and]
                        obtain ⟨ps, rfl⟩ := sides_ps hs
                        have so := sorted_t (sortB_ps ps)
                        have eq := srt_eq ps
                        generalize srtB (ps.map psD) = B at *
                        generalize (rr.filter fun x => !bndB x) = fl at *
                        generalize ps.map psD = ss at *
                        simp [m__law_is_piece, runM, g__law_is_piece, s1__law_is_piece, s2__law_is_piece, s3__law_is_piece, s4__law_is_piece, startE, hm, ha, h1, h2, a0, hl, noOwn, wipeE, lc2, backE, rl, ne2, sl, lp, so, eq]
    · rw [pcB_three h3]
      have h3' : ¬ ((ds.length : Int) = 3) := by omega
      simp [m__law_is_piece, runM, g__law_is_piece, s1__law_is_piece, startE, h3']
end Rg

namespace Rg
open PySem Mv Sh Fr
/-! ### the odd pieces -/
def noD : D := .tuple [.int 0, .int 0]
def oneD : D := .tuple [.int 0, .int 0, .int 0, .int 1, .int 1]
def exN : D := excD "Nothing"
def ods : List D :=
  [.none, .bool true, .int 1, .str ⟨#[]⟩, .tuple [], .list [], .dict [], .tuple [.int 1, .tuple [], .tuple []], .tuple [.int 1, .tuple [], .tuple [noD]], .tuple [.int 0, .tuple [], .tuple []], .tuple [.int 4, .tuple [], .tuple [noD, noD, noD, noD]], .tuple [.bool true, .tuple [], .tuple [noD]],
   .tuple [.int 1, .list [oneD], .tuple [noD]], .tuple [.int 1, .tuple [oneD], .list [noD]], .tuple [.int 1, .tuple [oneD, oneD], .tuple [noD]], .tuple [.int 1, .tuple [.tuple [.int 0, .int 0, .int 4, .int 1, .int 1]], .tuple [noD]],
   .tuple [.int 1, .tuple [.tuple [.int 0, .int 0, .int (-3), .int 1, .int 1], oneD], .tuple [noD]], .tuple [.int 1, .tuple [oneD, .tuple [.int 0, .int 0, .int (-3), .int 1, .int 1]], .tuple [noD]], .tuple [.int 1, .tuple [.tuple [.int 0, .int 1, .int 0, .int 1, .int 1]], .tuple [noD]],
   .dict [(.str ⟨#[97]⟩, .int 1)], .tuple [.int 1, .dict [(.int 0, oneD)], .tuple [noD]], .tuple [.int 1, .tuple [oneD], .dict [(.int 0, noD)]], .tuple [.int 1, .tuple [.dict []], .tuple [noD]], exN, .tuple [.int 1, .tuple [exN], .tuple [noD]],
   .tuple [exN, .tuple [oneD], .tuple [noD]], .tuple [.int 1, .tuple [.tuple [.int 0, .int 0, exN, .int 1, .int 1]], .tuple [noD]], .tuple [.int 1, .tuple [oneD], .tuple [exN]],
   .tuple [.int 1, .tuple [.tuple [.int 0, .int 0, .int 0, .int 2, .int 1]], .tuple [noD]], .tuple [.int 1, .tuple [.tuple [.int 0, .int 0, .int 0, .int 1, .int 1, .int 0]], .tuple [noD]], .tuple [.int 2, .tuple [oneD], .tuple [noD]], .tuple [.int 1, .tuple [oneD], .tuple [.tuple [.int 1, .int 0]]]]
theorem odd_ok (xs : List D) : m__law_odd_pieces xs [] = some (.ret (.own false ods), xs) := by kernel_rfl
def gpB : D → Bool
  | .tuple [_, .tuple ss, .tuple rr] => decide (ss.length ≤ 1000000) && decide (rr.length ≤ 1000000)
  | _ => true
theorem gp_of {d : D} (h : gpB d = true) : Gp d := ⟨fun k ss rr e => by
  subst e
  unfold gpB at h
  simpa using h⟩
theorem gp_ods : ∀ d ∈ ods, Gp d := fun d hd => gp_of (by
  have : ods.all gpB = true := by decide +kernel
  exact List.all_eq_true.mp this d hd)
theorem x_ods : ods.all (fun d => decide (xOk d)) = true := by decide +kernel
theorem reprX_of {d : D} (h : xOk d) : ∃ x, dReprX [d] = some (.val (.str x)) := by
  unfold dReprX
  by_cases h0 : repOk d
  · exact ⟨_, if_pos h0⟩
  · exact ⟨_, (if_neg h0).trans (if_pos h)⟩
theorem repr_ods : ∀ d ∈ ods, ∃ x, dReprX [d] = some (.val (.str x)) := fun d hd => reprX_of (of_decide_eq_true (List.all_eq_true.mp x_ods d hd))
theorem repr_tell {d : D} (h : Tell d) : ∃ x, dReprX [d] = some (.val (.str x)) := by
  obtain ⟨_, h0⟩ := h
  unfold dReprX
  exact ⟨_, if_pos h0⟩
end Rg

namespace Rg
open PySem Mv Sh Fr
/-! ### pieces that are bent -/
mutual
def tin : D → Prop
  | .int i => i.natAbs ≤ 100
  | .tuple xs => tins xs
  | _ => False
def tins : List D → Prop
  | [] => True
  | x :: xs => tin x ∧ tins xs
end
theorem tins_mem : ∀ {xs : List D}, tins xs → ∀ x ∈ xs, tin x
  | _ :: _, h, x, hx => by
    rcases List.mem_cons.mp hx with
                                                                                                                  rfl | hx
    · exact h.1
    · exact tins_mem h.2 x hx
theorem plain_small {i : Int} (h : i.natAbs ≤ 2 ^ 200) : plain (.int i) := by
  show i.natAbs.log2 < 1920
  exact log2_lt (by decide) (Nat.lt_of_le_of_lt h (by decide +kernel))
mutual
theorem tin_plain : ∀ {d : D}, tin d → plain d
  | .int i, h => plain_small (Nat.le_trans h (by decide))
  | .tuple xs, h => tins_plain h
theorem tins_plain : ∀ {ds : List D}, tins ds → plains ds
  | [], _ => trivial
  | _ :: _, h => ⟨tin_plain h.1, tins_plain h.2⟩
end
theorem sub_plains {xs ys : List D} (s : xs.Sublist ys) (h : plains ys) : plains xs := by
  induction s with
  | slnil => trivial
  | cons a _ ih => exact ih h.2
  | cons_cons a _ ih => exact ⟨h.1, ih h.2⟩
theorem sub_wides {xs ys : List D} (s : xs.Sublist ys) : wides xs ≤ wides ys := by
  induction s with
  | slnil => exact Nat.le_refl _
  | cons a _ ih => simp only [wides]; omega
  | cons_cons a _ ih => simp only [wides]; omega
theorem sub_depths {xs ys : List D} (s : xs.Sublist ys) : PyData.depthAll xs ≤ PyData.depthAll ys := by
  induction s with
  | slnil => exact Nat.le_refl _
  | cons a _ ih => simp only [PyData.depthAll]; omega
  | cons_cons a _ ih => simp only [PyData.depthAll]; omega
theorem cut_sub (xs : List D) (lo hi : Option Int) : (cutD xs lo hi).Sublist xs := (List.take_sublist _ _).trans (List.drop_sublist _ _)
theorem plains_app : ∀ {xs ys : List D}, plains xs → plains ys → plains (xs ++ ys)
  | [], _, _, h => h
  | _ :: _, _, h, k => ⟨h.1, plains_app h.2 k⟩
theorem wides_app : ∀ (xs ys : List D), wides (xs ++ ys) = wides xs + wides ys
  | [], _ => by simp [wides]
  | _ :: xs, ys => by
    simp only [List.cons_append, wides, wides_app xs ys]
    omega
theorem depths_app : ∀ (xs ys : List D), PyData.depthAll (xs ++ ys) = max (PyData.depthAll xs) (PyData.depthAll ys)
  | [], _ => by simp [PyData.depthAll]
  | _ :: xs, ys => by
    simp only [List.cons_append, PyData.depthAll, depths_app xs ys]
    omega
/-- what a bent thing may be -/
structure Pr (t r : D) : Prop where
  p : plain r
  w : wide r ≤ 4 * wide t + 4000
  d : r.depth ≤ t.depth + 1
structure Pls (w dp : Nat) (xs : List D) : Prop where
  p : plains xs
  w : wides xs ≤ w
  d : PyData.depthAll xs ≤ dp
theorem Pls.app {a b dp : Nat} {xs ys : List D} (h : Pls a dp xs) (k : Pls b dp ys) : Pls (a + b) dp (xs ++ ys) :=
  ⟨plains_app h.p k.p, by rw [wides_app]; exact Nat.add_le_add h.w k.w, by rw [depths_app]; exact Nat.max_le.mpr ⟨h.d, k.d⟩⟩
theorem Pls.sub {a dp : Nat} {xs ys : List D} (h : Pls a dp ys) (s : xs.Sublist ys) : Pls a dp xs := ⟨sub_plains s h.p, Nat.le_trans (sub_wides s) h.w, Nat.le_trans (sub_depths s) h.d⟩
theorem Pls.one {a dp : Nat} {x : D} (p : plain x) (w : wide x + 2 ≤ a) (d : x.depth ≤ dp) : Pls a dp [x] := ⟨⟨p, trivial⟩, by simp only [wides]; omega, by simp only [PyData.depthAll]; omega⟩
theorem Pls.pr {w dp : Nat} {ds xs : List D} (h : Pls w dp xs) (hw : w ≤ 4 * wides ds + 4000) (hd : dp ≤ PyData.depthAll ds + 1) : Pr (.tuple ds) (.tuple xs) :=
  ⟨h.p, by show wides xs + 3 ≤ 4 * (wides ds + 3) + 4000; have := h.w; omega, by have := h.d; simp only [PyData.depth]; omega⟩
/-- the texts of small numbers -/
theorem str_small : ∀ n : Fin 201, PyData.strOk (Str.ofString (toString ((n : Nat) - 100 : Int))) = true ∧ (PyData.str (Str.ofString (toString ((n : Nat) - 100 : Int)))).shown.length ≤ 400 := by decide +kernel
theorem plain_str {i : Int} (h : i.natAbs ≤ 100) : plain (.str (toString i)) := by
  have := str_small ⟨(i + 100).toNat, by omega⟩
  have e : (((i + 100).toNat : Nat) : Int) - 100 = i := by omega
  simp only [e] at this
  exact this

def bcond : M Bool := bOr (vB (vOp dEq (vVar 2) (vC (.int 0)))) (bOr (bNot (vB (vUn (isiD "tuple") (vVar 1)))) (bOr (vB (vOp dEq (vVar 1) (vTup (vNil)))) (vB (vOp dEq (vCallB 0 m__law_take (vCons (vC (.int 6)) (vNil))) (vC (.int 0))))))
def binner : MS := sSeq (sIf (vB (vCall m__law_integer (vCons (vVar 1) (vNil)))) (sRet (vCallB 0 m__law_one (vCons (vLst (vCons (vOp dAdd (vVar 1) (vC (.int 1))) (vCons (vOp dSub (vVar 1) (vC (.int 1))) (vCons (vUn dNeg (vVar 1)) (vCons (vOp dEq (vVar 1) (vC (.int 1))) (vCons (vCb dStr (vCons (vVar 1) (vNil))) (vCons (vC .none) (vCons (vTup (vCons (vVar 1) (vNil))) (vCons (vC (.int 4)) (vCons (vOp dPow (vC (.int 10)) (vC (.int 39))) (vNil))))))))))) (vNil)))) (sNil)) (sSeq (sIf (vB (vUn (isiD "tuple") (vVar 1))) (sSeq (sSet 3 (vCallB 0 m__law_take (vCons (vOp dAdd (vLenv 1) (vC (.int 1))) (vNil)))) (sSeq (sSet 4 (vLst (vCons (vOp dAdd (vSlv 1 (oNone) (oSome (vVar 3))) (vSlv 1 (oSome (vOp dAdd (vVar 3) (vC (.int 1)))) (oNone))) (vCons (vOp dAdd (vVar 1) (vSlv 1 (oNone) (oSome (vC (.int 1))))) (vCons (vUn dRev (vVar 1)) (vCons (vCb dList (vCons (vVar 1) (vNil))) (vCons (vOp dAdd (vOp dAdd (vSlv 1 (oNone) (oSome (vVar 3))) (vTup (vCons (vC (.int 0)) (vNil)))) (vSlv 1 (oSome (vVar 3)) (oNone))) (vNil)))))))) (sRet (vCallB 0 m__law_one (vCons (vOp dAdd (vVar 4) (vLst (vCons (vOp dAdd (vOp dAdd (vOp dAdd (vSlv 1 (oNone) (oSome (vVar 3))) (vSlv 1 (oSome (vOp dAdd (vVar 3) (vC (.int 1)))) (oSome (vOp dAdd (vVar 3) (vC (.int 2)))))) (vSlv 1 (oSome (vVar 3)) (oSome (vOp dAdd (vVar 3) (vC (.int 1)))))) (vSlv 1 (oSome (vOp dAdd (vVar 3) (vC (.int 2)))) (oNone))) (vNil)))) (vNil)))))) (sNil)) (sRet (vCallB 0 m__law_one (vCons (vLst (vCons (vC .none) (vCons (vC (.bool true)) (vCons (vC (.int 1)) (vCons (vC (.str ⟨#[]⟩)) (vCons (vTup (vNil)) (vNil))))))) (vNil)))))
def brest (rec : List D → List D → Option (Out × List D)) : MS := sSeq (sSet 3 (vCallB 0 m__law_take (vCons (vLenv 1) (vNil)))) (sRet (vOp dAdd (vOp dAdd (vSlv 1 (oNone) (oSome (vVar 3))) (vTup (vCons (vCallB 0 rec (vCons (vIxv 1 (vVar 3)) (vCons (vOp dSub (vVar 2) (vC (.int 1))) (vNil)))) (vNil)))) (vSlv 1 (oSome (vOp dAdd (vVar 3) (vC (.int 1)))) (oNone))))
theorem g_bent (rec : List D → List D → Option (Out × List D)) : g__law_bent_v2 rec 0 = sSeq (sIf bcond binner sNil) (brest rec) := rfl
theorem inner_int {xs : List D} (B : BagOk xs) {i : Int} (hi : i.natAbs ≤ 100) (s2 s3 s4 : Sl) : ∃ r ys es, binner [.own true xs, .val (.int i), s2, s3, s4] = .ok (.rt (.val r)) (.own true ys :: es) ∧ BagOk ys ∧ Pr (.int i) r := by
  obtain ⟨v, ys, e, hv, B'⟩ := one_list B (ds := [.int (i + 1), .int (i - 1), .int (-i), .bool (decide (i = 1)), .str (Str.ofString i.repr), .none, .tuple [.int i], .int 4, .int 1000000000000000000000000000000000000000]) (by simp) (by simp)
  have m1 := m_integer_any (.int i)
  have lg : i.natAbs.log2 < 1920 := log2_lt (by decide) (Nat.lt_of_le_of_lt hi (up (n := 100) (k := 7) (by decide) (by decide)))
  refine ⟨v, ys, [.val (.int i), s2, s3, s4], ?_, B', ?_⟩
  · unfold binner
    simp [m1, isInt, dStr, lg, dPow, lim_is, e]
  · simp only [List.mem_cons, List.not_mem_nil, or_false] at hv
    rcases hv with rfl | rfl | rfl | rfl | rfl | rfl | rfl | rfl | rfl
    · exact ⟨plain_small (by omega), by show 1921 ≤ 4 * 1921 + 4000; decide, by simp [PyData.depth]⟩
    · exact ⟨plain_small (by omega), by show 1921 ≤ 4 * 1921 + 4000; decide, by simp [PyData.depth]⟩
    · exact ⟨plain_small (by omega), by show 1921 ≤ 4 * 1921 + 4000; decide, by simp [PyData.depth]⟩
    · exact ⟨trivial, by show 5 ≤ 4 * 1921 + 4000; decide, by simp [PyData.depth]⟩
    · exact ⟨plain_str hi, by show 400 ≤ 4 * 1921 + 4000; decide, by simp [PyData.depth]⟩
    · exact ⟨trivial, by show 4 ≤ 4 * 1921 + 4000; decide, by simp [PyData.depth]⟩
    · exact ⟨⟨plain_small (by omega), trivial⟩, by show 1921 + 2 + 0 + 3 ≤ 4 * 1921 + 4000; decide, by simp [PyData.depth, PyData.depthAll]⟩
    · exact ⟨plain_small (by decide), by show 1921 ≤ 4 * 1921 + 4000; decide, by simp [PyData.depth]⟩
    · exact ⟨plain_small (by decide), by show 1921 ≤ 4 * 1921 + 4000; decide, by simp [PyData.depth]⟩
end Rg

namespace Rg
open PySem Mv Sh Fr
theorem plains_rev : ∀ {xs : List D}, plains xs → plains xs.reverse
  | [], _ => trivial
  | x :: xs, h => by
    rw [List.reverse_cons]
    exact plains_app (plains_rev h.2) ⟨h.1, trivial⟩
theorem wides_rev : ∀ xs : List D, wides xs.reverse = wides xs
  | [] => rfl
  | x :: xs => by
    rw [List.reverse_cons, wides_app, wides_rev xs]
    simp only [wides]
    omega
theorem depths_rev : ∀ xs : List D, PyData.depthAll xs.reverse = PyData.depthAll xs
  | [] => rfl
  | x :: xs => by
    rw [List.reverse_cons, depths_app, depths_rev xs]
    simp only [PyData.depthAll]
    omega
theorem Pls.rev {w dp : Nat} {xs : List D} (h : Pls w dp xs) : Pls w dp xs.reverse := ⟨plains_rev h.p, by rw [wides_rev]; exact h.w, by rw [depths_rev]; exact h.d⟩
theorem inner_tup {xs : List D} (B : BagOk xs) {ds : List D} (P : plains ds) (hl : ds.length ≤ 100000) (s2 : Sl) : ∃ r ys es, binner [.own true xs, .val (.tuple ds), s2, .no, .no] = .ok (.rt (.val r)) (.own true ys :: es) ∧ BagOk ys ∧ Pr (.tuple ds) r := by
  obtain ⟨v, y1, e1, v0, v1, B1⟩ := take_ok B (many := (ds.length : Int) + 1) (by omega) (by omega)
  have cl : ∀ lo hi, (cutD ds lo hi).length ≤ 100000 := fun lo hi => Nat.le_trans (cut_len _ _ _) hl
  have cs := cut_sub ds
  have m1 := m_integer_any (.tuple ds)
  obtain ⟨p1, cu1⟩ : ∃ p, cutD ds none (some v) = p := ⟨_, rfl⟩
  obtain ⟨p2, cu2⟩ : ∃ p, cutD ds (some (v + 1)) none = p := ⟨_, rfl⟩
  obtain ⟨p3, cu3⟩ : ∃ p, cutD ds none (some 1) = p := ⟨_, rfl⟩
  obtain ⟨p4, cu4⟩ : ∃ p, cutD ds (some v) none = p := ⟨_, rfl⟩
  obtain ⟨p5, cu5⟩ : ∃ p, cutD ds (some (v + 1)) (some (v + 2)) = p := ⟨_, rfl⟩
  obtain ⟨p6, cu6⟩ : ∃ p, cutD ds (some v) (some (v + 1)) = p := ⟨_, rfl⟩
  obtain ⟨p7, cu7⟩ : ∃ p, cutD ds (some (v + 2)) none = p := ⟨_, rfl⟩
  have l1 := cl none (some v); have l2 := cl (some (v + 1)) none; have l3 := cl none (some 1); have l4 := cl (some v) none; have l5 := cl (some (v + 1)) (some (v + 2)); have l6 := cl (some v) (some (v + 1)); have l7 := cl (some (v + 2)) none
  have c1 := cs none (some v); have c2 := cs (some (v + 1)) none; have c3 := cs none (some 1); have c4 := cs (some v) none; have c5 := cs (some (v + 1)) (some (v + 2)); have c6 := cs (some v) (some (v + 1)); have c7 := cs (some (v + 2)) none
  rw [cu1] at l1 c1; rw [cu2] at l2 c2; rw [cu3] at l3 c3; rw [cu4] at l4 c4; rw [cu5] at l5 c5; rw [cu6] at l6 c6; rw [cu7] at l7 c7
  have a12 : p1.length + p2.length ≤ 1000000 := by omega
  have a3 : ds.length + p3.length ≤ 1000000 := by omega
  have a1 : p1.length + 1 ≤ 1000000 := by omega
  have a14 : p1.length + 1 + p4.length ≤ 1000000 := by omega
  have a15 : p1.length + p5.length ≤ 1000000 := by omega
  have a156 : p1.length + p5.length + p6.length ≤ 1000000 := by omega
  have a1567 : p1.length + p5.length + p6.length + p7.length ≤ 1000000 := by omega
  obtain ⟨r, ys, e, hv, B'⟩ := one_list B1 (ds := [.tuple (p1 ++ p2), .tuple (ds ++ p3), .tuple ds.reverse, .list ds, .tuple (p1 ++ [.int 0] ++ p4), .tuple (p1 ++ p5 ++ p6 ++ p7)]) (by simp) (by simp)
  refine ⟨r, ys, [.val (.tuple ds), s2, .val (.int v), .val (.list [.tuple (p1 ++ p2), .tuple (ds ++ p3), .tuple ds.reverse, .list ds, .tuple (p1 ++ [.int 0] ++ p4)])], ?_, B', ?_⟩
  · unfold binner
    simp [m1, isInt, e1, cu1, cu2, cu3, cu4, cu5, cu6, cu7, a12, a3, a1, a14, a15, a156, a1567, lim_is, e, -List.append_assoc]
  · have S : Pls (wides ds) (PyData.depthAll ds) ds := ⟨P, Nat.le_refl _, Nat.le_refl _⟩
    have S0 : Pls 1923 (PyData.depthAll ds) [.int 0] := .one (plain_small (by decide)) (by show 1921 + 2 ≤ 1923; decide) (by simp [PyData.depth])
    simp only [List.mem_cons, List.not_mem_nil, or_false] at hv
    rcases hv with rfl |
                                                                                                                  rfl | rfl | rfl | rfl | rfl
    · exact ((S.sub c1).app (S.sub c2)).pr (by omega) (by omega)
    · exact (S.app (S.sub c3)).pr (by omega) (by omega)
    · exact (Pls.rev S).pr (by omega) (by omega)
    · exact ⟨P, by show wides ds + 3 ≤ 4 * (wides ds + 3) + 4000; omega, by simp [PyData.depth]⟩
    · exact (((S.sub c1).app S0).app (S.sub c4)).pr (by omega) (by omega)
    · exact ((((S.sub c1).app (S.sub c5)).app (S.sub c6)).app (S.sub c7)).pr (by omega) (by omega)
end Rg

namespace Fr
open PySem Mv Sh

/-! ### tables can be told and compared -/
theorem plain_int {i : Int} (h : i.natAbs ≤ 1000000) : plain (.int i) := log2_lt (by decide) (up (n := i.natAbs) (k := 20) (by omega) (by decide))
theorem plain_side {n : Nat} {M : Int} {s : Side} (S : SideOk n M s) (hn : n ≤ 1000000) (hM : M ≤ 1000000) : plain (sideD s) := by
  have := S.j0; have := S.j1; have := S.l0; have := S.le; have := S.hi
  exact ⟨plain_int (by omega), plain_int (by omega), plain_int (by omega), trivial⟩
theorem plain_row {n K : Nat} {M : Int} {r : Row} (R : RowOk n M K r) (hn : n ≤ 1000000) (hM : M ≤ 1000000) : plain (rowD r) := by
  have := R.r0; have := R.le; have := R.hi
  exact ⟨plains_of fun d hd => by
    obtain ⟨s, hs, rfl⟩ := List.mem_map.mp hd
    exact plain_side (R.all s hs) hn hM, ⟨plain_int (by omega), plain_int (by omega), trivial⟩, trivial⟩
theorem wide_side (s : Side) : wide (sideD s) = 5772 := rfl
theorem wide_row {K : Nat} {r : Row} (h : r.sides.length ≤ K) : wide (rowD r) ≤ K * 5774 + 3860 := by
  have h1 := wides_of (ds := r.sides.map sideD) (k := 5772) fun d hd => by
    obtain ⟨s, _, rfl⟩ := List.mem_map.mp hd
    exact Nat.le_of_eq (wide_side s)
  rw [List.length_map] at h1
  have h2 : r.sides.length * (5772 + 2) ≤ K * (5772 + 2) := Nat.mul_le_mul_right _ h
  show wides (r.sides.map sideD) + 3 + 2 + (wide (prD r.r0 r.r1) + 2 + 0) + 3 ≤ _
  have : wide (prD r.r0 r.r1) = 3849 := rfl
  omega
theorem shaped_plain {d : D} (h : plain d) (hd : d.depth ≤ 60) : SeqAt.shaped d = true := by
  obtain ⟨_, _, h3⟩ := plain_ok d h
  show (d.canLay0 && decide (d.depth ≤ 64)) = true
  rw [h3, decide_eq_true (by omega)]
  rfl
theorem plain_rows {n K : Nat} {M : Int} {rs : List Row} (R : ∀ r ∈ rs, RowOk n M K r) (hn : n ≤ 1000000) (hM : M ≤ 1000000) : plain (.list (rs.map rowD)) ∧ plain (.tuple (rs.map rowD)) := by
  have : plains (rs.map rowD) := plains_of fun d hd => by
    obtain ⟨s, hs, rfl⟩ := List.mem_map.mp hd
    exact plain_row (R s hs) hn hM
  exact ⟨this, this⟩
theorem depth_rows (rs : List Row) : (PyData.list (rs.map rowD)).depth ≤ 4 ∧ (PyData.tuple (rs.map rowD)).depth ≤ 4 := by
  have := depth_map (enc := rowD) (k := 3) row_depth rs
  constructor <;> simp only [PyData.depth] <;> omega
theorem tell_tab {M : Int} {K R : Nat} {t : Tab} (T : TabOk M K R t) (hn : t.n ≤ 1000000) (hM : M ≤ 1000000) (hw : R * (K * 5774 + 3862) + 2000 ≤ 1000000) : Tell (tabD t) := by
  refine tell_of ⟨plain_int (by omega), (plain_rows T.all hn hM).2, trivial⟩ ?_ ?_
  · have h1 := wides_of (ds := t.rows.map rowD) (k := K * 5774 + 3860) fun d hd => by
      obtain ⟨r, hr, rfl⟩ := List.mem_map.mp hd
      exact wide_row (T.all r hr).len
    rw [List.length_map] at h1
    have h2 : t.rows.length * (K * 5774 + 3860 + 2) ≤ R * (K * 5774 + 3860 + 2) := Nat.mul_le_mul_right _ T.len
    show 1921 + 2 + (wides (t.rows.map rowD) + 3 + 2 + 0) + 3 ≤ 1000000
    have h3 : K * 5774 + 3860 + 2 = K * 5774 + 3862 := rfl
    rw [h3] at h1 h2
    omega
  · have := depth_rows t.rows
    simp only [tabD, PyData.depth, PyData.depthAll] at this ⊢
    omega
/-! ### rows with their unknowns exchanged -/
structure OrdOk (n : Nat) (os : List Int) : Prop where
  len : os.length = n
  all : ∀ o ∈ os, 0 ≤ o ∧ o < n
theorem OrdOk.at {n : Nat} {os : List Int} (O : OrdOk n os) {j : Int} (j0 : 0 ≤ j) (j1 : j < n) : L2.atI (os.map PyData.int) j = some (.int (os.getD j.toNat 0)) ∧ 0 ≤ os.getD j.toNat 0 ∧ os.getD j.toNat 0 < n := by
  obtain ⟨k, rfl⟩ : ∃ k : Nat, j = (k : Int) := ⟨j.toNat, by omega⟩
  have hk : k < os.length := by rw [O.len]; omega
  rw [Int.toNat_natCast, List.getD_eq_getElem?_getD, List.getElem?_eq_getElem hk]
  exact ⟨at_ints hk, O.all _ (List.getElem_mem hk)⟩
end Fr

namespace Rg
open PySem Mv Sh Fr
theorem len_wides : ∀ ds : List D, 2 * ds.length ≤ wides ds
  | [] => by simp [wides]
  | d :: ds => by
    have := len_wides ds
    simp only [wides, List.length_cons]
    omega
theorem split_at {ds : List D} {n : Nat} (h : n < ds.length) : ds = ds.take n ++ (ds[n] :: ds.drop (n + 1)) := by
  rw [List.getElem_cons_drop, List.take_append_drop]
theorem wides_at {ds : List D} {n : Nat} (h : n < ds.length) : wides (ds.take n) + (wide ds[n] + 2 + wides (ds.drop (n + 1))) = wides ds := by
  have e := congrArg wides (split_at h)
  rw [wides_app] at e
  exact e.symm
theorem at_n {ds : List D} {n : Nat} (h : n < ds.length) : L2.atI ds (n : Int) = some ds[n] := by
  unfold L2.atI
  rw [ix_nat h]
  simp [h]
theorem bent_run {rec : List D → List D → Option (Out × List D)} {xs y1 ys : List D} {t : D} {z : Int} {r : D} {es : List Sl} (bc : bcond [.own true xs, .val t, .val (.int z), .no, .no] = .ok true [.own true y1, .val t, .val (.int z), .no, .no])
    (e : binner [.own true y1, .val t, .val (.int z), .no, .no] = .ok (.rt (.val r)) (.own true ys :: es)) : runB 3 5 (g__law_bent_v2 rec) (fun _ _ => 0) xs [t, .int z] = some (.ret (.val r), ys) := by
  unfold runB
  rw [g_bent]
  simp [startE, bc, e, outB]
theorem bent_ok : ∀ (deep dep : Nat), deep < dep → ∀ {xs : List D} {t : D}, BagOk xs → tin t → wide t ≤ 200000 → t.depth ≤ 60 → ∃ r ys, r__law_bent_v2 dep xs [t, .int deep] = some (.ret (.val r), ys) ∧ BagOk ys ∧ Pr t r := by
  intro deep
  have inn : ∀ {xs : List D} {t : D} (z : Int), BagOk xs → tin t → wide t ≤ 200000 → ∃ r ys es, binner [.own true xs, .val t, .val (.int z), .no, .no] = .ok (.rt (.val r)) (.own true ys :: es) ∧ BagOk ys ∧ Pr t r := by
    intro xs t z B T hw
    cases t with
    | int i => exact inner_int B T _ _ _
    | tuple ds =>
      have := len_wides ds
      have hw : wides ds + 3 ≤ 200000 := hw
      exact inner_tup B (tins_plain T) (by omega) _
    | _ => exact T.elim
  induction deep with
  | zero =>
    intro dep hd xs t B T hw hdp
    obtain ⟨dep, rfl⟩ : ∃ n, dep = n + 1 := ⟨dep - 1, by omega⟩
    obtain ⟨r, ys, es, e, B', p⟩ := inn 0 B T hw
    exact ⟨r, ys, bent_run (z := 0) (by unfold bcond; simp) e, B', p⟩
  | succ deep ih =>
    intro dep hd xs t B T hw hdp
    obtain ⟨dep, rfl⟩ : ∃ n, dep = n + 1 := ⟨dep - 1, by omega⟩
    obtain ⟨z, hz⟩ : ∃ z : Int, ((deep + 1 : Nat) : Int) = z := ⟨_, rfl⟩
    rw [hz]
    have z0 : ¬ z = 0 := by omega
    have z1 : z - 1 = deep := by omega
    show ∃ r ys, runB 3 5 (g__law_bent_v2 (r__law_bent_v2 dep)) (fun _ _ => 0) xs [t, .int z] = some (.ret (.val r), ys) ∧ BagOk ys ∧ Pr t r
    cases t with
    | int i =>
      obtain ⟨r, ys, es, e, B', p⟩ := inn z B T hw
      exact ⟨r, ys, bent_run (z := z) (by unfold bcond; simp [z0, isTup]) e, B', p⟩
    | tuple ds =>
      have lw := len_wides ds
      have hw' : wides ds + 3 ≤ 200000 := hw
      have pl := tins_plain T
      have sh : SeqAt.shaped (.tuple ds) = true := shaped_plain (show plain (.tuple ds) from pl) hdp
      have en := eq_tup_nil sh
      by_cases he : ds = []
      · subst he
        obtain ⟨r, ys, es, e, B', p⟩ := inn z B T hw
        exact ⟨r, ys, bent_run (z := z) (by unfold bcond; simp [z0, en]) e, B', p⟩
      · have hne : ds.isEmpty = false := by
          rw [← Bool.not_eq_true, List.isEmpty_iff]
          exact he
        rw [hne] at en
        obtain ⟨v, y1, e1, v0, v1, B1⟩ := take_ok B (many := 6) (by decide) (by decide)
        by_cases hv : v = 0
        · obtain ⟨r, ys, es, e, B', p⟩ := inn z B1 T hw
          exact ⟨r, ys, bent_run (z := z) (by unfold bcond; simp [z0, en, e1, hv]) e, B', p⟩
        · have bc : bcond [.own true xs, .val (.tuple ds), .val (.int z), .no, .no] = .ok false [.own true y1, .val (.tuple ds), .val (.int z), .no, .no] := by
            unfold bcond
            simp [z0, en, e1, hv]
          have hl : 0 < ds.length := List.length_pos_iff.mpr he
          obtain ⟨v2, y2, e2, w0, w1, B2⟩ := take_ok B1 (many := (ds.length : Int)) (by omega) (by omega)
          obtain ⟨n, rfl⟩ : ∃ n : Nat, v2 = n := ⟨v2.toNat, by omega⟩
          have hn : n < ds.length := by omega
          have an := at_n hn
          have wa := wides_at hn
          have Tn := tins_mem T _ (List.getElem_mem hn)
          have dn : ds[n].depth ≤ PyData.depthAll ds := by
            have := sub_depths (List.singleton_sublist.mpr (List.getElem_mem hn))
            simpa [PyData.depthAll] using this
          have hdp' : PyData.depthAll ds + 1 ≤ 60 := by simpa only [PyData.depth] using hdp
          obtain ⟨r, ys, e3, B3, p⟩ := ih dep (by omega) B2 Tn (by omega) (by omega)
          have ct := cut_hi2 ds n
          have cd := cut_lo2 ds n
          have lt : (ds.take n).length ≤ 100000 := by rw [List.length_take]; omega
          have ld : (ds.drop (n + 1)).length ≤ 100000 := by rw [List.length_drop]; omega
          have pt : Pls (wides (ds.take n)) (PyData.depthAll ds + 1) (ds.take n) := ⟨sub_plains (List.take_sublist _ _) pl, Nat.le_refl _, Nat.le_trans (sub_depths (List.take_sublist _ _)) (by omega)⟩
          have pd : Pls (wides (ds.drop (n + 1))) (PyData.depthAll ds + 1) (ds.drop (n + 1)) := ⟨sub_plains (List.drop_sublist _ _) pl, Nat.le_refl _, Nat.le_trans (sub_depths (List.drop_sublist _ _)) (by omega)⟩
          have pr : Pls (wide r + 2) (PyData.depthAll ds + 1) [r] := .one p.p (Nat.le_refl _) (by have := p.d; omega)
          have pw := p.w
          have fin : Pr (.tuple ds) (.tuple (ds.take n ++ [r] ++ ds.drop (n + 1))) := ((pt.app pr).app pd).pr (by omega) (by omega)
          generalize ds[n] = x at an e3
          generalize ds.take n = tk at *
          generalize ds.drop (n + 1) = dr at *
          have l1 : tk.length + 1 ≤ 1000000 := by omega
          have l2 : tk.length + 1 + dr.length ≤ 1000000 := by omega
          refine ⟨_, ys, ?_, B3, fin⟩
          unfold runB
          rw [g_bent]
          unfold brest
          simp [startE, bc, e2, an, z1, e3, ct, cd, l1, l2, lim_is, outB, -List.append_assoc]
    | _ => exact T.elim
end Rg

namespace G57
open PySem Mv Sh Fr Rg
theorem seq_nx {g h : MS} {e e1 : En} (p : g e = .ok .nx e1) : sSeq g h e = h e1 := by unfold sSeq; rw [p]
theorem tell_bool (b : Bool) : Tell (.bool b) := tell_of trivial (by show 5 ≤ 1000000; decide) (by simp [PyData.depth])
theorem any_piece9 {xs : List D} (hb : BagOk xs) : ∃ (p : Piece) (ys : List D), m__law_any_piece xs [.int 3] = some (.ret (.val (pieceD p)), ys) ∧ BagOk ys ∧ 1 ≤ p.kinds ∧ p.kinds ≤ 3 ∧ PieceOk 10 9 p := by
  obtain ⟨v, y1, e1, v0, v1, B1⟩ := take_ok hb (many := 4) (by decide) (by decide)
  by_cases hv : v = 0
  · obtain ⟨p, y2, e2, B2, p1, p2, P⟩ := piece_ok B1 (kinds := 3) (by decide) (by decide)
    have e2 : m__law_piece y1 [.int 3] = _ := e2
    refine ⟨p, y2, ?_, B2, p1, p2, P.mono (by decide) (by omega)⟩
    simp only [m__law_any_piece, runB, g__law_any_piece, List.length_cons, List.length_nil, if_true]
    simp [startE, e1, hv, e2]
  · obtain ⟨p, y2, e2, B2, p1, p2, P⟩ := heavy_piece_ok B1 (kinds := 3) (by decide) (by decide) (decide (v = 1))
    have e2 : m__law_heavy_piece y1 [.int 3, .bool (decide (v = 1))] = _ := e2
    refine ⟨p, y2, ?_, B2, p1, p2, P.mono (by decide) (by omega)⟩
    simp only [m__law_any_piece, runB, g__law_any_piece, List.length_cons, List.length_nil, if_true]
    simp [startE, e1, hv, e2]
/-- what a drawn piece is -/
structure Dr (p : Piece) : Prop where
  k1 : 1 ≤ p.kinds
  k3 : p.kinds ≤ 3
  ok : PieceOk 10 9 p
theorem tins_of {ds : List D} (h : ∀ d ∈ ds, tin d) : tins ds := by
  induction ds with
  | nil => trivial
  | cons d ds ih => exact ⟨h d List.mem_cons_self, ih fun x hx => h x (List.mem_cons_of_mem _ hx)⟩
theorem Dr.tin {p : Piece} (R : Dr p) : tin (pieceD p) := by
  have k3 := R.k3
  refine ⟨show (p.kinds : Int).natAbs ≤ 100 by omega, tins_of fun d hd => ?_, tins_of fun d hd => ?_, trivial⟩
  · obtain ⟨s, hs, rfl⟩ := List.mem_map.mp hd
    have S := R.ok.all s hs
    have a := S.r0; have b := S.r1; have c := S.u0; have d := S.u1; have e := S.s0; have f := S.s1; have g := S.l0; have h := S.le; have i := S.hi
    exact ⟨show s.r.natAbs ≤ 100 by omega, show s.u.natAbs ≤ 100 by omega, show s.sh.natAbs ≤ 100 by omega, show s.lo.natAbs ≤ 100 by omega, show s.hi.natAbs ≤ 100 by omega, trivial⟩
  · obtain ⟨s, hs, rfl⟩ := List.mem_map.mp hd
    obtain ⟨a, b, c⟩ := R.ok.rs s hs
    exact ⟨show s.1.natAbs ≤ 100 by omega, show s.2.natAbs ≤ 100 by omega, trivial⟩
theorem Dr.wide {p : Piece} (R : Dr p) : wide (pieceD p) ≤ 110000 := by
  have h1 := wides_of (ds := p.sides.map psD) (k := 9618) fun d hd => by
    obtain ⟨s, _, rfl⟩ := List.mem_map.mp hd
    exact Nat.le_refl 9618
  have h2 := wides_of (ds := p.rights.map rtD) (k := 3849) fun d hd => by
    obtain ⟨s, _, rfl⟩ := List.mem_map.mp hd
    exact Nat.le_refl 3849
  rw [List.length_map] at h1 h2
  have l1 := R.ok.len
  have l2 := R.ok.rl
  have k3 := R.k3
  have m1 : p.sides.length * (9618 + 2) ≤ 9 * (9618 + 2) := Nat.mul_le_mul_right _ l1
  have m2 : p.rights.length * (3849 + 2) ≤ 3 * (3849 + 2) := Nat.mul_le_mul_right _ (by omega)
  show 1921 + 2 + (wides (p.sides.map psD) + 3 + 2 + (wides (p.rights.map rtD) + 3 + 2 + 0)) + 3 ≤ 110000
  omega
theorem piece_depth (p : Piece) : (pieceD p).depth ≤ 3 := by
  have d1 := depths_of (ds := p.sides.map psD) (k := 1) fun d hd => by
    obtain ⟨s, _, rfl⟩ := List.mem_map.mp hd
    exact Nat.le_of_eq (ps_depth s)
  have d2 := depths_of (ds := p.rights.map rtD) (k := 1) fun d hd => by
    obtain ⟨s, _, rfl⟩ := List.mem_map.mp hd
    simp [rtD, prD, PyData.depth, PyData.depthAll]
  simp only [pieceD, PyData.depth, PyData.depthAll]
  omega
/-- what is asked of -/
structure Th (d : D) : Prop where
  r : ∃ x, dReprX [d] = some (.val (.str x))
  g : Gp d
theorem gp_wide {d : D} (h : wide d ≤ 1000000) : Gp d := ⟨fun k ss rr e => by
  subst e
  have a := len_wides ss
  have b := len_wides rr
  have h : Fr.wide k + 2 + (wides ss + 3 + 2 + (wides rr + 3 + 2 + 0)) + 3 ≤ 1000000 := h
  omega⟩
theorem th_plain {d : D} (p : plain d) (w : wide d ≤ 1000000) (dp : d.depth ≤ 60) : Th d := ⟨repr_tell (tell_of p w dp), gp_wide w⟩
theorem th_odd {d : D} (h : d ∈ ods) : Th d := ⟨repr_ods d h, gp_ods d h⟩
theorem thing_ok {d : D} (T : Th d) (s0 s1 s2 s3 s4 s5 s6 s8 : Sl) : ∃ x, b2_law 0 [s0, s1, s2, s3, s4, s5, s6, .val d, s8, .no, .no] = .ok .nx [s0, s1, s2, s3, s4, s5, s6, .val d, .val (.str x), .no, .no] := by
  obtain ⟨x, hx⟩ := T.r
  have i1 := is_piece_any T.g
  have i2 := law_piece_any T.g
  have al := alike_ok (tell_bool (pcB d))
  refine ⟨x, ?_⟩
  generalize pcB d = b at *
  unfold b2_law
  simp [hx, i1, i2, vCallL, aCons, aNil, agsOf, agOf, al, lendR, scal0]
theorem ring_step {p : Piece} (R : Dr p) {m : Nat} (m0 : 0 < m) (m1 : m ≤ 12) (s0 s1 s2 s4 s6 s7 s8 : Sl) : b1_law 0 [s0, s1, s2, .val (pieceD p), s4, .val (.int m), s6, s7, s8, .no, .no] = .ok .nx [s0, s1, s2, .val (pieceD p), s4, .val (.int m), s6, s7, s8, .no, .no] := by
  have k3 := R.k3
  have k1 := R.k1
  have mo : mulOk (m : Int) (p.kinds : Int) := .inr (.inl ⟨by omega, by omega⟩)
  have at0 : ∀ a b : D, L2.atI [PyData.int p.kinds, a, b] 0 = some (.int p.kinds) := fun _ _ => rfl
  have pd : pieceD p = .tuple [.int p.kinds, .tuple (p.sides.map psD), .tuple (p.rights.map rtD)] := rfl
  by_cases h : m * p.kinds ≤ 12
  · have r1 := ring_table_ok R.ok (by decide) m0 (by omega) (by omega)
    have r2 := law_ring_eq R.ok (by decide) m0 (by omega) (by omega)
    have T := ring_ok R.ok (by decide) m0
    have tl := tell_tab T (by show m * p.kinds ≤ 1000000; omega) (by decide) (Nat.le_trans (Nat.add_le_add_right (Nat.mul_le_mul_right _ h) 2000) (by decide))
    have al := alike_ok tl
    have h' : (m : Int) * (p.kinds : Int) ≤ 12 := by
      rw [← Int.natCast_mul]
      omega
    rw [pd] at r1 r2 ⊢
    generalize tabD (ringT p m) = td at *
    generalize p.sides.map psD = sd at *
    generalize p.rights.map rtD = rd at *
    unfold b1_law
    simp [at0, mo, h', r1, r2, vCallL, aCons, aNil, agsOf, agOf, al, lendR, scal0]
  · have h' : ¬ ((m : Int) * (p.kinds : Int) ≤ 12) := by
      rw [← Int.natCast_mul]
      omega
    rw [pd]
    generalize p.sides.map psD = sd at *
    generalize p.rights.map rtD = rd at *
    unfold b1_law
    simp [at0, mo, h']
/-- the items that are spread -/
def itm : List D := [.int 0, .int 1, .tuple [.int 1, .int 2], .tuple [.int 0, .int 1], .str ⟨#[97]⟩]
theorem itm_ok : ∀ d ∈ itm, plain d ∧ wide d ≤ 4000 ∧ d.depth ≤ 1 := by
  intro d hd
  simp only [itm, List.mem_cons, List.not_mem_nil, or_false] at hd
  rcases hd with rfl | rfl | rfl | rfl | rfl
  · exact ⟨plain_small (by decide), by show 1921 ≤ 4000; decide, by simp [PyData.depth]⟩
  · exact ⟨plain_small (by decide), by show 1921 ≤ 4000; decide, by simp [PyData.depth]⟩
  · exact ⟨⟨plain_small (by decide), plain_small (by decide), trivial⟩, by show 1921 + 2 + (1921 + 2 + 0) + 3 ≤ 4000; decide, by simp [PyData.depth, PyData.depthAll]⟩
  · exact ⟨⟨plain_small (by decide), plain_small (by decide), trivial⟩, by show 1921 + 2 + (1921 + 2 + 0) + 3 ≤ 4000; decide, by simp [PyData.depth, PyData.depthAll]⟩
  · exact ⟨⟨by decide +kernel, by decide +kernel⟩, by show 400 ≤ 4000; decide, by simp [PyData.depth]⟩
theorem mul_items {zs : List D} (h : ∀ d ∈ zs, d ∈ itm) (hl : zs.length ≤ 3) {m : Int} (m0 : 1 ≤ m) (m1 : m ≤ 5) : ∃ ds, dMul2 (.tuple zs) (.int m) = some (.val (.tuple ds)) ∧ Tell (.tuple ds) := by
  have key : ∀ ds : List D, (∀ d ∈ ds, d ∈ zs) → ds.length ≤ 15 → Tell (.tuple ds) := fun ds hd hl => (tell_list (ds := ds) (w := 4000) (h := 1) (fun d hx => itm_ok d (h d (hd d hx))) (by
    have : ds.length * (4000 + 2) ≤ 15 * (4000 + 2) := Nat.mul_le_mul_right _ hl
    omega) (by decide)).2
  have n6 : m.natAbs < 1000000 := by omega
  rw [mul2_tup, if_pos n6]
  by_cases h1 : zs = [] ∨ m = 1
  · rw [if_pos h1]
    exact ⟨zs, rfl, key zs (fun _ h => h) (by omega)⟩
  · rw [if_neg h1, if_neg (by omega : ¬ m ≤ 0)]
    have c : zs ≠ [] ∧ 2 ≤ m ∧ m ≤ 1000 ∧ zs.length ≤ 1000 := ⟨fun z => h1 (.inl z), by omega, by omega, by omega⟩
    refine ⟨(List.replicate m.toNat zs).flatten, if_pos c, key _ (fun d hd => ?_) ?_⟩
    · obtain ⟨l, h2, h3⟩ := List.mem_flatten.mp hd
      rw [List.eq_of_mem_replicate h2] at h3
      exact h3
    · rw [List.length_flatten, List.map_replicate, List.sum_replicate_nat]
      have : m.toNat * zs.length ≤ 5 * 3 := Nat.mul_le_mul (by omega) hl
      omega
theorem turn_ok {xs : List D} (B : BagOk xs) (s0 s2 s3 s4 s5 s6 s7 s8 : Sl) : ∃ (ys : List D) (t3 t4 t5 t6 t7 t8 : Sl), b3_law 0 [s0, .own false xs, s2, s3, s4, s5, s6, s7, s8, .no, .no] = .ok .nx [s0, .own false ys, s2, t3, t4, t5, t6, t7, t8, .no, .no] ∧ BagOk ys := by
  obtain ⟨p, y1, e1, B1, k1, k3, P⟩ := any_piece9 B
  have R : Dr p := ⟨k1, k3, P⟩
  have tp := tell_of (tin_plain R.tin) (Nat.le_trans R.wide (by decide)) (Nat.le_trans (piece_depth p) (by decide))
  obtain ⟨x, hx⟩ := repr_tell tp
  -- the rings
  obtain ⟨v, y2, e2, hv, B2⟩ := one_list B1 (ds := [.int 4, .int 5, .int 6, .int 7, .int 12]) (by simp) (by simp)
  obtain ⟨m, rfl, m0, m1⟩ : ∃ m : Nat, v = .int m ∧ 0 < m ∧ m ≤ 12 := by
    simp only [List.mem_cons, List.not_mem_nil, or_false] at hv
    rcases hv with rfl | rfl | rfl | rfl | rfl
    · exact ⟨4, rfl, by decide, by decide⟩
    · exact ⟨5, rfl, by decide, by decide⟩
    · exact ⟨6, rfl, by decide, by decide⟩
    · exact ⟨7, rfl, by decide, by decide⟩
    · exact ⟨12, rfl, by decide, by decide⟩
  obtain ⟨e', lp1, a5, rfl, -⟩ := for_each (pat := pNm 5) (b := b1_law 0) (fun m : Nat => PyData.int m) (fun ms e => ∃ a5 : Sl, e = [s0, .own false y2, s2, .val (pieceD p), .val (.str x), a5, s6, s7, s8, .no, .no] ∧ ∀ q ∈ ms, 0 < q ∧ q ≤ 12) (fun q qs e ⟨a5, he, hq⟩ => by
    subst he
    obtain ⟨q0, q1⟩ := hq q List.mem_cons_self
    exact ⟨_, _, rfl, ring_step R q0 q1 s0 (.own false y2) s2 (.val (.str x)) s6 s7 s8, _, rfl, fun z hz => hq z (List.mem_cons_of_mem _ hz)⟩) [1, 2, 3, m] [s0, .own false y2, s2, .val (pieceD p), .val (.str x), s5, s6, s7, s8, .no, .no] ⟨s5, rfl, by
      intro q hq
      simp only [List.mem_cons, List.not_mem_nil, or_false] at hq
      rcases hq with rfl | rfl | rfl | rfl
      · decide
      · decide
      · decide
      · exact ⟨m0, m1⟩⟩
  have f1 : s1_law 0 [s0, .own false y1, s2, .val (pieceD p), .val (.str x), s5, s6, s7, s8, .no, .no] = .ok .nx [s0, .own false y2, s2, .val (pieceD p), .val (.str x), a5, s6, s7, s8, .no, .no] := by
    have lp1 : forL (pNm 5) (b1_law 0) [.int 1, .int 2, .int 3, .int (m : Int)] _ = _ := lp1
    generalize pieceD p = pd at *
    have l4 : 4 ≤ LIM := by decide
    unfold s1_law
    simp [e2, lp1, lim_is]
  -- the items
  have at0 : ∀ a b : D, L2.atI [PyData.int p.kinds, a, b] 0 = some (.int p.kinds) := fun _ _ => rfl
  have pd : pieceD p = .tuple [.int p.kinds, .tuple (p.sides.map psD), .tuple (p.rights.map rtD)] := rfl
  have rngk : ∀ e, rngR [.int (p.kinds : Int)] e = .ok (rngD 0 p.kinds) e := rng_nat (by omega)
  obtain ⟨zs, e', c1, c2, c3, y3, rfl, B3⟩ := lcL_draw (pat := pNm 9) (el := e1_law 0) (vs := [9]) (fun k : Nat => PyData.int k) id (fun _ d => d ∈ itm) (fun e => ∃ us, e = [s0, .own false us, s2, .val (pieceD p), .val (.str x), a5, s6, s7, s8, .no, .no] ∧ BagOk us) (List.range p.kinds) (fun q hq e ⟨us, he, B⟩ => by
    subst he
    obtain ⟨d, yq, eq, hd, Bq⟩ := one_list B (ds := itm) (by simp [itm]) (by simp [itm])
    refine ⟨_, _, d, [s0, .own false yq, s2, .val (pieceD p), .val (.str x), a5, s6, s7, s8, .val (.int q), .no], rfl, ?_, hd, yq, rfl, Bq⟩
    have eq : m__law_one us [.list [.int 0, .int 1, .tuple [.int 1, .int 2], .tuple [.int 0, .int 1], .str ⟨#[97]⟩]] = _ := eq
    show vD (e1_law 0) [s0, .own false us, s2, .val (pieceD p), .val (.str x), a5, s6, s7, s8, .val (.int q), .no] = _
    generalize pieceD p = pd at *
    unfold e1_law
    simp [eq, lim_is]) [s0, .own false y2, s2, .val (pieceD p), .val (.str x), a5, s6, s7, s8, .no, .no] ⟨y2, rfl, B2⟩
  rw [← rng_map] at c1
  have zm : ∀ d ∈ zs.map (·.2), d ∈ itm := fun d hd => by
    obtain ⟨z, hz, rfl⟩ := List.mem_map.mp hd
    exact c3 z hz
  have zl : (zs.map (·.2)).length ≤ 3 := by
    have := congrArg List.length c2
    rw [List.length_map, List.length_range] at this
    rw [List.length_map]
    omega
  have c1 : lcL (pNm 9) bYes (e1_law 0) [9] (rngD 0 p.kinds) _ = .ok (zs.map (·.2)) _ := c1
  generalize zs.map (·.2) = its at *
  have lr : (rngD 0 p.kinds).length ≤ LIM := by rw [rng_map, List.length_map, List.length_range]; unfold LIM; omega
  have f2 : s2_law 0 [s0, .own false y2, s2, .val (pieceD p), .val (.str x), a5, s6, s7, s8, .no, .no] = .ok .nx [s0, .own false y3, s2, .val (pieceD p), .val (.str x), a5, .val (.tuple its), s7, s8, .no, .no] := by
    rw [pd] at c1 ⊢
    generalize p.sides.map psD = sd at *
    generalize p.rights.map rtD = rd at *
    unfold s2_law
    simp [at0, rngk, noOwn, wipeE, lr, c1, backE]
  -- spread
  obtain ⟨v, y4, e4, hv, B4⟩ := one_list B3 (ds := [.int 1, .int 2, .int 5, .int 4]) (by simp) (by simp)
  obtain ⟨n, rfl, n0, n1⟩ : ∃ n : Int, v = .int n ∧ 1 ≤ n ∧ n ≤ 5 := by
    simp only [List.mem_cons, List.not_mem_nil, or_false] at hv
    rcases hv with rfl | rfl | rfl | rfl
    · exact ⟨1, rfl, by decide, by decide⟩
    · exact ⟨2, rfl, by decide, by decide⟩
    · exact ⟨5, rfl, by decide, by decide⟩
    · exact ⟨4, rfl, by decide, by decide⟩
  obtain ⟨ms, em, tm⟩ := mul_items zm zl n0 n1
  have sp : m_spread [.tuple its, .int n] = some (.ret (.val (.tuple ms))) := by
    simp only [m_spread, runM, g_spread, List.length_cons, List.length_nil, if_true]
    simp [startE, em, -mul2_tup]
  have al := alike_ok tm
  have f3 : s3_law 0 [s0, .own false y3, s2, .val (pieceD p), .val (.str x), a5, .val (.tuple its), s7, s8, .no, .no] = .ok .nx [s0, .own false y4, s2, .val (pieceD p), .val (.str x), .val (.int n), .val (.tuple its), s7, s8, .no, .no] := by
    generalize pieceD p = pd at *
    unfold s3_law
    simp [e4, lim_is]
  have f4 : s4_law 0 [s0, .own false y4, s2, .val (pieceD p), .val (.str x), .val (.int n), .val (.tuple its), s7, s8, .no, .no] = .ok .nx [s0, .own false y4, s2, .val (pieceD p), .val (.str x), .val (.int n), .val (.tuple its), s7, s8, .no, .no] := by
    generalize pieceD p = pd at *
    unfold s4_law
    simp [sp, em, vCallL, aCons, aNil, agsOf, agOf, al, lendR, scal0, hx, -mul2_tup]
  -- the things
  have rng12 : ∀ e, rngR [.int 12] e = .ok (rngD 0 12) e := rng_nat (n := 12) (by decide)
  obtain ⟨ws, e', d1, d2, d3, y5, rfl, B5⟩ := lcL_draw (pat := pNm 10) (el := e2_law 0) (vs := [10]) (fun k : Nat => PyData.int k) id (fun _ d => Th d) (fun e => ∃ us, e = [s0, .own false us, s2, .val (pieceD p), .val (.str x), .val (.int n), .val (.tuple its), s7, s8, .no, .no] ∧ BagOk us) (List.range 12) (fun q hq e ⟨us, he, B⟩ => by
    subst he
    obtain ⟨d, yq, eq, Bq, pr⟩ := bent_ok 4 8 (by decide) B R.tin (Nat.le_trans R.wide (by decide)) (Nat.le_trans (piece_depth p) (by decide))
    have wd := R.wide
    have dp := piece_depth p
    have pw := pr.w
    have pdp := pr.d
    have th : Th d := th_plain pr.p (by omega) (by omega)
    refine ⟨_, _, d, [s0, .own false yq, s2, .val (pieceD p), .val (.str x), .val (.int n), .val (.tuple its), s7, s8, .no, .val (.int q)], rfl, ?_, th, yq, rfl, Bq⟩
    have eq : m__law_bent_v2 us [pieceD p, .int 4] = _ := eq
    show vD (e2_law 0) [s0, .own false us, s2, .val (pieceD p), .val (.str x), .val (.int n), .val (.tuple its), s7, s8, .no, .val (.int q)] = _
    generalize pieceD p = pd at *
    unfold e2_law
    simp [eq]) [s0, .own false y4, s2, .val (pieceD p), .val (.str x), .val (.int n), .val (.tuple its), s7, s8, .no, .no] ⟨y4, rfl, B4⟩
  rw [← rng_map] at d1
  have d1 : lcL (pNm 10) bYes (e2_law 0) [10] (rngD 0 12) _ = .ok (ws.map (·.2)) _ := d1
  have wt : ∀ d ∈ ws.map (·.2), Th d := fun d hd => by
    obtain ⟨z, hz, rfl⟩ := List.mem_map.mp hd
    exact d3 z hz
  have wl : (ws.map (·.2)).length = 12 := by
    have := congrArg List.length d2
    rw [List.length_map, List.length_range] at this
    rw [List.length_map]
    exact this
  generalize ws.map (·.2) = ts at *
  have od := odd_ok y5
  have ol : ods.length = 32 := rfl
  have tt : ∀ d ∈ pieceD p :: (ts ++ ods), Th d := fun d hd => by
    rcases List.mem_cons.mp hd with
                                                                                                                  rfl | hd
    · exact th_plain (tin_plain R.tin) (Nat.le_trans R.wide (by decide)) (Nat.le_trans (piece_depth p) (by decide))
    · rcases List.mem_append.mp hd with hd | hd
      · exact wt d hd
      · exact th_odd hd
  obtain ⟨e', lp5, t7, t8, rfl, -⟩ := for_each (pat := pNm 7) (b := b2_law 0) (id : D → D) (fun ds e => ∃ t7 t8 : Sl, e = [s0, .own false y5, s2, .val (pieceD p), .val (.str x), .val (.int n), .val (.tuple its), t7, t8, .no, .no] ∧ ∀ d ∈ ds, Th d) (fun d ds e ⟨t7, t8, he, hd⟩ => by
    subst he
    obtain ⟨y, hy⟩ := thing_ok (hd d List.mem_cons_self) s0 (.own false y5) s2 (.val (pieceD p)) (.val (.str x)) (.val (.int n)) (.val (.tuple its)) t8
    exact ⟨_, _, rfl, hy, _, _, rfl, fun z hz => hd z (List.mem_cons_of_mem _ hz)⟩) (pieceD p :: (ts ++ ods)) [s0, .own false y5, s2, .val (pieceD p), .val (.str x), .val (.int n), .val (.tuple its), s7, s8, .no, .no] ⟨s7, s8, rfl, tt⟩
  rw [List.map_id] at lp5
  have f5 : s5_law 0 [s0, .own false y4, s2, .val (pieceD p), .val (.str x), .val (.int n), .val (.tuple its), s7, s8, .no, .no] = .ok .nx [s0, .own false y5, s2, .val (pieceD p), .val (.str x), .val (.int n), .val (.tuple its), t7, t8, .no, .no] := by
    have lr : (rngD 0 12).length ≤ LIM := by decide
    generalize pieceD p = pd at *
    generalize ods = od2 at *
    unfold s5_law
    simp [rng12, noOwn, wipeE, lr, d1, backE, od, wl, ol, lim_is, lp5]
  have f0 : b3_law 0 [s0, .own false xs, s2, s3, s4, s5, s6, s7, s8, .no, .no] = sSeq (s1_law 0) (sSeq (s2_law 0) (sSeq (s3_law 0) (sSeq (s4_law 0) (s5_law 0)))) [s0, .own false y1, s2, .val (pieceD p), .val (.str x), s5, s6, s7, s8, .no, .no] := by
    generalize pieceD p = pd at *
    unfold b3_law
    simp [e1, hx]
  refine ⟨y5, .val (pieceD p), .val (.str x), .val (.int n), .val (.tuple its), t7, t8, ?_, B5⟩
  rw [f0, seq_nx f1, seq_nx f2, seq_nx f3, seq_nx f4]
  exact f5
def TuI (ds : List D) (e : En) : Prop := ∃ (ys : List D) (s0 s2 s3 s4 s5 s6 s7 s8 : Sl), e = [s0, .own false ys, s2, s3, s4, s5, s6, s7, s8, .no, .no] ∧ BagOk ys
theorem answers (ns : List Int) (hn : ns.length ≤ 63) : m_law [.list (ns.map .int)] = some (.ret (.val (.bool true))) := by
  obtain ⟨ys, hb, B⟩ := bag_ok hn
  obtain ⟨e', w, y2, a0, a2, a3, a4, a5, a6, a7, a8, rfl, _⟩ := for_inv (pat := pNm 2) (b := b3_law 0) TuI (fun d ds e ⟨ys, a0, a2, a3, a4, a5, a6, a7, a8, he, B⟩ => by
    subst he
    obtain ⟨zs, t3, t4, t5, t6, t7, t8, h1, h2⟩ := turn_ok B a0 (.val d) a3 a4 a5 a6 a7 a8
    exact ⟨_, _, rfl, h1, zs, _, _, _, _, _, _, _, _, rfl, h2⟩) (rngD 0 5) _ ⟨ys, .val (.list (ns.map .int)), .no, .no, .no, .no, .no, .no, .no, rfl, B⟩
  have rng : ∀ e, rngR [.int 5] e = .ok (rngD 0 5) e := rng_nat (n := 5) (by decide)
  simp only [m_law, runM, g_law, List.length_cons, List.length_nil, if_true]
  simp [startE, hb, rng, w]
end G57

namespace G57
open L2 PySem.Spec PySem PyProof.Rows Mv Sh
set_option maxHeartbeats 0 in
theorem ends {l : PySem.W.OpenLaw} {w : World} {K : PySem.W.Frag} {h : Heap} {mg : Str → Option Value} {fa : Addr} (X : K.In h) (G : h.Ns mainGlobals mg) (hfa : mg "law" = some (.ref fa)) (nl : noLists K = true)
    (a0 : At K "is_integer" S_is_integer)
    (a1 : At K "is_tuple_of" S_is_tuple_of)
    (a2 : At K "is_bounds" S_is_bounds)
    (a3 : At K "is_kind" S_is_kind)
    (a4 : At K "is_piece_side" S_is_piece_side)
    (a5 : At K "is_piece" S_is_piece)
    (a6 : At K "ring_row" S_ring_row)
    (a7 : At K "ring_table" S_ring_table)
    (a8 : At K "spread" S_spread)
    (a9 : At K "_law_bag" S__law_bag)
    (a10 : At K "_law_take" S__law_take)
    (a11 : At K "_law_one" S__law_one)
    (a12 : At K "_law_mixed" S__law_mixed)
    (a13 : At K "_law_alike" S__law_alike)
    (a14 : At K "_law_integer" S__law_integer)
    (a15 : At K "_law_bounds" S__law_bounds)
    (a16 : At K "_law_piece" S__law_piece)
    (a17 : At K "_law_heavy_piece" S__law_heavy_piece)
    (a18 : At K "_law_any_piece" S__law_any_piece)
    (a19 : At K "_law_ring" S__law_ring)
    (a20 : At K "_law_is_bounds" S__law_is_bounds)
    (a21 : At K "_law_is_piece" S__law_is_piece)
    (a22 : At K "_law_bent" S__law_bent)
    (a23 : At K "_law_odd_pieces" S__law_odd_pieces)
    (a24 : At K "law" S_law)
    (gu0 : GU K "FAR" (.int 3))
    (xu0 : XcU K "Nothing")
    (bt : Blt mg) : noLists K = true ∧ ∃ fd : FuncData, (∀ (s : Shared) (v : Value), BindsTo s fd ⟨[v], []⟩ [("script", v)]) ∧ ∀ base : Heap, K.In base → base.Ns mainGlobals mg → FnG l.prog w K mg base 12 fa fd ["script"] (spV K mg m_law) := by
  have k_FAR := gu0.gc X G
  have x_Nothing := xu0.gc X G
  obtain ⟨f0, fd0, e0, F0, _⟩ := a0.ex
  have h0 := PySem.W.mg_of X G e0
  have b0 := F0.binds (ps := ["thing"]) fun _ _ _ _ _ _ us hl => match us, hl with | [_], _ => rfl
  have c_is_integer := fun base : Heap => w_is_integer (P := l.prog) (w := w) (base := base) bt F0 b0 h0
  obtain ⟨f1, fd1, e1, F1, _⟩ := a1.ex
  have h1 := PySem.W.mg_of X G e1
  have b1 := F1.binds (ps := ["thing", "size"]) fun _ _ _ _ _ _ us hl => match us, hl with | [_, _], _ => rfl
  have c_is_tuple_of := fun base : Heap => w_is_tuple_of (P := l.prog) (w := w) (base := base) bt F1 b1 h1
  obtain ⟨f2, fd2, e2, F2, _⟩ := a2.ex
  have h2 := PySem.W.mg_of X G e2
  have b2 := F2.binds (ps := ["thing"]) fun _ _ _ _ _ _ us hl => match us, hl with | [_], _ => rfl
  have c_is_bounds := fun base : Heap => w_is_bounds (P := l.prog) (w := w) (base := base) bt F2 b2 h2 (c_is_tuple_of base) (c_is_integer base)
  obtain ⟨f3, fd3, e3, F3, _⟩ := a3.ex
  have h3 := PySem.W.mg_of X G e3
  have b3 := F3.binds (ps := ["kinds", "thing"]) fun _ _ _ _ _ _ us hl => match us, hl with | [_, _], _ => rfl
  have c_is_kind := fun base : Heap => w_is_kind (P := l.prog) (w := w) (base := base) bt F3 b3 h3 (c_is_integer base)
  obtain ⟨f4, fd4, e4, F4, _⟩ := a4.ex
  have h4 := PySem.W.mg_of X G e4
  have b4 := F4.binds (ps := ["kinds", "thing"]) fun _ _ _ _ _ _ us hl => match us, hl with | [_, _], _ => rfl
  have c_is_piece_side := fun base : Heap => w_is_piece_side (P := l.prog) (w := w) (base := base) bt F4 b4 h4 (c_is_kind base) (c_is_integer base) (c_is_bounds base) k_FAR
  obtain ⟨f5, fd5, e5, F5, _⟩ := a5.ex
  have h5 := PySem.W.mg_of X G e5
  have b5 := F5.binds (ps := ["thing"]) fun _ _ _ _ _ _ us hl => match us, hl with | [_], _ => rfl
  have c_is_piece := fun base : Heap => w_is_piece (P := l.prog) (w := w) (base := base) bt F5 b5 h5 (c_is_integer base) (c_is_bounds base) (c_is_piece_side base)
  obtain ⟨f6, fd6, e6, F6, _⟩ := a6.ex
  have h6 := PySem.W.mg_of X G e6
  have b6 := F6.binds (ps := ["piece", "many", "place", "kind"]) fun _ _ _ _ _ _ us hl => match us, hl with | [_, _, _, _], _ => rfl
  have c_ring_row := fun base : Heap => w_ring_row (P := l.prog) (w := w) (base := base) bt F6 b6 h6
  obtain ⟨f7, fd7, e7, F7, _⟩ := a7.ex
  have h7 := PySem.W.mg_of X G e7
  have b7 := F7.binds (ps := ["piece", "many"]) fun _ _ _ _ _ _ us hl => match us, hl with | [_, _], _ => rfl
  have c_ring_table := fun base : Heap => w_ring_table (P := l.prog) (w := w) (base := base) bt F7 b7 h7 (c_ring_row base)
  obtain ⟨f8, fd8, e8, F8, _⟩ := a8.ex
  have h8 := PySem.W.mg_of X G e8
  have b8 := F8.binds (ps := ["items", "many"]) fun _ _ _ _ _ _ us hl => match us, hl with | [_, _], _ => rfl
  have c_spread := fun base : Heap => w_spread (P := l.prog) (w := w) (base := base) bt F8 b8 h8
  obtain ⟨f9, fd9, e9, F9, _⟩ := a9.ex
  have h9 := PySem.W.mg_of X G e9
  have b9 := F9.binds (ps := ["script"]) fun _ _ _ _ _ _ us hl => match us, hl with | [_], _ => rfl
  have c__law_bag := fun base : Heap => w__law_bag (P := l.prog) (w := w) (base := base) bt F9 b9 h9
  obtain ⟨f10, fd10, e10, F10, _⟩ := a10.ex
  have h10 := PySem.W.mg_of X G e10
  have b10 := F10.binds (ps := ["bag", "many"]) fun _ _ _ _ _ _ us hl => match us, hl with | [_, _], _ => rfl
  have c__law_take := fun base : Heap => w__law_take (P := l.prog) (w := w) (base := base) bt F10 b10 h10
  obtain ⟨f11, fd11, e11, F11, _⟩ := a11.ex
  have h11 := PySem.W.mg_of X G e11
  have b11 := F11.binds (ps := ["bag", "things"]) fun _ _ _ _ _ _ us hl => match us, hl with | [_, _], _ => rfl
  have c__law_one := fun base : Heap => w__law_one (P := l.prog) (w := w) (base := base) bt F11 b11 h11 (c__law_take base)
  obtain ⟨f12, fd12, e12, F12, _⟩ := a12.ex
  have h12 := PySem.W.mg_of X G e12
  have b12 := F12.binds (ps := ["bag", "things"]) fun _ _ _ _ _ _ us hl => match us, hl with | [_, _], _ => rfl
  have c__law_mixed := fun base : Heap => w__law_mixed (P := l.prog) (w := w) (base := base) bt F12 b12 h12 (c__law_take base)
  obtain ⟨f13, fd13, e13, F13, _⟩ := a13.ex
  have h13 := PySem.W.mg_of X G e13
  have b13 := F13.binds (ps := ["found", "due"]) fun _ _ _ _ _ _ us hl => match us, hl with | [_, _], _ => rfl
  have c__law_alike := fun base : Heap => w__law_alike (P := l.prog) (w := w) (base := base) bt F13 b13 h13
  obtain ⟨f14, fd14, e14, F14, _⟩ := a14.ex
  have h14 := PySem.W.mg_of X G e14
  have b14 := F14.binds (ps := ["thing"]) fun _ _ _ _ _ _ us hl => match us, hl with | [_], _ => rfl
  have c__law_integer := fun base : Heap => w__law_integer (P := l.prog) (w := w) (base := base) bt F14 b14 h14
  obtain ⟨f15, fd15, e15, F15, _⟩ := a15.ex
  have h15 := PySem.W.mg_of X G e15
  have b15 := F15.binds (ps := ["bag", "most"]) fun _ _ _ _ _ _ us hl => match us, hl with | [_, _], _ => rfl
  have c__law_bounds := fun base : Heap => w__law_bounds (P := l.prog) (w := w) (base := base) bt F15 b15 h15 (c__law_one base) (c__law_take base)
  obtain ⟨f16, fd16, e16, F16, _⟩ := a16.ex
  have h16 := PySem.W.mg_of X G e16
  have b16 := F16.binds (ps := ["bag", "kinds"]) fun _ _ _ _ _ _ us hl => match us, hl with | [_, _], _ => rfl
  have c__law_piece := fun base : Heap => w__law_piece (P := l.prog) (w := w) (base := base) bt F16 b16 h16 (c__law_one base) (c__law_bounds base) (c__law_take base)
  obtain ⟨f17, fd17, e17, F17, _⟩ := a17.ex
  have h17 := PySem.W.mg_of X G e17
  have b17 := F17.binds (ps := ["bag", "kinds", "diagonal"]) fun _ _ _ _ _ _ us hl => match us, hl with | [_, _, _], _ => rfl
  have c__law_heavy_piece := fun base : Heap => w__law_heavy_piece (P := l.prog) (w := w) (base := base) bt F17 b17 h17 (c__law_take base) (c__law_mixed base) (c__law_one base)
  obtain ⟨f18, fd18, e18, F18, _⟩ := a18.ex
  have h18 := PySem.W.mg_of X G e18
  have b18 := F18.binds (ps := ["bag", "kinds"]) fun _ _ _ _ _ _ us hl => match us, hl with | [_, _], _ => rfl
  have c__law_any_piece := fun base : Heap => w__law_any_piece (P := l.prog) (w := w) (base := base) bt F18 b18 h18 (c__law_take base) (c__law_piece base) (c__law_heavy_piece base)
  obtain ⟨f19, fd19, e19, F19, _⟩ := a19.ex
  have h19 := PySem.W.mg_of X G e19
  have b19 := F19.binds (ps := ["piece", "many"]) fun _ _ _ _ _ _ us hl => match us, hl with | [_, _], _ => rfl
  have c__law_ring := fun base : Heap => w__law_ring (P := l.prog) (w := w) (base := base) bt F19 b19 h19
  obtain ⟨f20, fd20, e20, F20, _⟩ := a20.ex
  have h20 := PySem.W.mg_of X G e20
  have b20 := F20.binds (ps := ["thing"]) fun _ _ _ _ _ _ us hl => match us, hl with | [_], _ => rfl
  have c__law_is_bounds := fun base : Heap => w__law_is_bounds (P := l.prog) (w := w) (base := base) bt F20 b20 h20 (c__law_integer base)
  obtain ⟨f21, fd21, e21, F21, _⟩ := a21.ex
  have h21 := PySem.W.mg_of X G e21
  have b21 := F21.binds (ps := ["thing"]) fun _ _ _ _ _ _ us hl => match us, hl with | [_], _ => rfl
  have c__law_is_piece := fun base : Heap => w__law_is_piece (P := l.prog) (w := w) (base := base) bt F21 b21 h21 (c__law_integer base) (c__law_is_bounds base)
  obtain ⟨f22, fd22, e22, F22, _⟩ := a22.ex
  have h22 := PySem.W.mg_of X G e22
  have b22 := F22.binds (ps := ["bag", "thing", "deep"]) fun _ _ _ _ _ _ us hl => match us, hl with | [_, _, _], _ => rfl
  have c__law_bent := fun base : Heap => w__law_bent (P := l.prog) (w := w) (base := base) bt F22 b22 h22 (c__law_take base) (c__law_integer base) (c__law_one base) 8
  obtain ⟨f23, fd23, e23, F23, _⟩ := a23.ex
  have h23 := PySem.W.mg_of X G e23
  have b23 := F23.binds (ps := ["bag"]) fun _ _ _ _ _ _ us hl => match us, hl with | [_], _ => rfl
  have c__law_odd_pieces := fun base : Heap => w__law_odd_pieces (P := l.prog) (w := w) (base := base) bt F23 b23 h23 x_Nothing
  obtain ⟨f24, fd24, e24, F24, _⟩ := a24.ex
  have h24 := PySem.W.mg_of X G e24
  have b24 := F24.binds (ps := ["script"]) fun _ _ _ _ _ _ us hl => match us, hl with | [_], _ => rfl
  have e := hfa.symm.trans h24
  cases e
  have F := F24
  obtain ⟨oc, od, kV, doc, pm, an,
                                                                                                                cdv, ct, osl, rfl, lk, hcd⟩ := F.ex
  refine ⟨nl, PySem.W.fnOf "law" "law" (defArgs S_law) (defBody S_law) (defScope S_law) .none kV doc pm an cdv ct, fun s v => .of_eq rfl, fun base _ _ => ?_⟩
  exact w_law (P := l.prog) (w := w) (base := base) bt F24 (c__law_bag base) (c__law_any_piece base) (c__law_one base) (c__law_odd_pieces base) (c__law_alike base) (c_spread base) (c__law_bent base) (c_ring_table base) (c__law_ring base) (c_is_piece base) (c__law_is_piece base)
end G57
open PySem PySem.W PyProof.Rows Mv
set_option maxHeartbeats 0 in
theorem PySem.Challenge.cw_anglesuntold_k57_rings_laid_out_holds : PySem.Challenge.rw_anglesuntold_k57_rings_laid_out.Holds := by
  w_on; o_law; k_head;
                                                                                                                (case hw => w_witness2)
  k_fill
  refine law_walk (l := PySem.Challenge.rw_anglesuntold_k57_rings_laid_out) (n := 63) (k := 12) (x := "script") (m := G57.m_law) rfl (by decide) rfl ⟨⟨rfl, by decide, by decide⟩, rfl⟩ (fun w h Y => PySem.W.kIn_of Y) ?F G57.answers
  case F =>
    intro w mg fa h KX G hmg
    refine' G57.ends KX G hmg ?nl ?a0 ?a1 ?a2 ?a3 ?a4 ?a5 ?a6 ?a7 ?a8 ?a9 ?a10 ?a11 ?a12 ?a13 ?a14 ?a15 ?a16 ?a17 ?a18 ?a19 ?a20 ?a21 ?a22 ?a23 ?a24 ?gu0 ?xu0 (bt_mk KX G ?z)
    (case nl => with_unfolding_all exact rfl)
    (case z => simp only [List.forall_mem_cons]; refine' ⟨?z_len, ?z_abs, ?z_repr, ?z_all, ?z_sum, ?z_max, ?z_min, ?z_sorted, ?z_int, ?z_bool, ?z_str, ?z_tuple, ?z_list, ?z_dict, ?z_set, ?z_isinstance, ?z_range, ?z_enumerate, ?z_zip, ?zn⟩; (case z_len => k_is); (case z_abs => k_is); (case z_repr => k_is); (case z_all => k_is); (case z_sum => k_is); (case z_max => k_is); (case z_min => k_is); (case z_sorted => k_is); (case z_int => k_is); (case z_bool => k_is); (case z_str => k_is); (case z_tuple => k_is); (case z_list => k_is); (case z_dict => k_is); (case z_set => k_is); (case z_isinstance => k_is); (case z_range => k_is); (case z_enumerate => k_is); (case z_zip => k_is); (case zn => exact fun _ h => (List.not_mem_nil h).elim))
    (case a0 => refine' at_mk ?a ?l ?c ?k; (case a => k_is); (case l => k_is); (case c => k_is); (case k => k_is))
    (case a1 => refine' at_mk ?a ?l ?c ?k; (case a => k_is); (case l => k_is); (case c => k_is); (case k => k_is))
    (case a2 => refine' at_mk ?a ?l ?c ?k; (case a => k_is); (case l => k_is); (case c => k_is); (case k => k_is))
    (case a3 => refine' at_mk ?a ?l ?c ?k; (case a => k_is); (case l => k_is); (case c => k_is); (case k => k_is))
    (case a4 => refine' at_mk ?a ?l ?c ?k; (case a => k_is); (case l => k_is); (case c => k_is); (case k => k_is))
    (case a5 => refine' at_mk ?a ?l ?c ?k; (case a => k_is); (case l => k_is); (case c => k_is); (case k => k_is))
    (case a6 => refine' at_mk ?a ?l ?c ?k; (case a => k_is); (case l => k_is); (case c => k_is); (case k => k_is))
    (case a7 => refine' at_mk ?a ?l ?c ?k; (case a => k_is); (case l => k_is); (case c => k_is); (case k => k_is))
    (case a8 => refine' at_mk ?a ?l ?c ?k; (case a => k_is); (case l => k_is); (case c => k_is); (case k => k_is))
    (case a9 => refine' at_mk ?a ?l ?c ?k; (case a => k_is); (case l => k_is); (case c => k_is); (case k => k_is))
    (case a10 => refine' at_mk ?a ?l ?c ?k; (case a => k_is); (case l => k_is); (case c => k_is); (case k => k_is))
    (case a11 => refine' at_mk ?a ?l ?c ?k; (case a => k_is); (case l => k_is); (case c => k_is); (case k => k_is))
    (case a12 => refine' at_mk ?a ?l ?c ?k; (case a => k_is); (case l => k_is); (case c => k_is); (case k => k_is))
    (case a13 => refine' at_mk ?a ?l ?c ?k; (case a => k_is); (case l => k_is); (case c => k_is); (case k => k_is))
    (case a14 => refine' at_mk ?a ?l ?c ?k; (case a => k_is); (case l => k_is); (case c => k_is); (case k => k_is))
    (case a15 => refine' at_mk ?a ?l ?c ?k; (case a => k_is); (case l => k_is); (case c => k_is); (case k => k_is))
    (case a16 => refine' at_mk ?a ?l ?c ?k; (case a => k_is); (case l => k_is); (case c => k_is); (case k => k_is))
    (case a17 => refine' at_mk ?a ?l ?c ?k; (case a => k_is); (case l => k_is); (case c => k_is); (case k => k_is))
    (case a18 => refine' at_mk ?a ?l ?c ?k; (case a => k_is); (case l => k_is); (case c => k_is); (case k => k_is))
    (case a19 => refine' at_mk ?a ?l ?c ?k; (case a => k_is); (case l => k_is); (case c => k_is); (case k => k_is))
    (case a20 => refine' at_mk ?a ?l ?c ?k; (case a => k_is); (case l => k_is); (case c => k_is); (case k => k_is))
    (case a21 => refine' at_mk ?a ?l ?c ?k; (case a => k_is); (case l => k_is); (case c => k_is); (case k => k_is))
    (case a22 => refine' at_mk ?a ?l ?c ?k; (case a => k_is); (case l => k_is); (case c => k_is); (case k => k_is))
    (case a23 => refine' at_mk ?a ?l ?c ?k; (case a => k_is); (case l => k_is); (case c => k_is); (case k => k_is))
    (case a24 => refine' at_mk ?a ?l ?c ?k; (case a => k_is); (case l => k_is); (case c => k_is); (case k => k_is))
    (case gu0 => exact gu_mk (by k_is) (gv_int _ _))
    (case xu0 => refine' xcu_mk ?x_n ?x_xi ?x_cl ?x_cn ?x_kp ?x_rep ?x_sub ?x_ga ?x_gt ?x_hd ?x_ca ?x_cg ?x_ct ?x_cm ?x_k1 ?x_k2 ?x_k3 ?x_k4 ?x_k5; (case x_n => k_is); (case x_xi => k_exc); (case x_cl => k_is); (case x_cn => rfl); (case x_kp => k_is); (case x_rep => k_is); (case x_sub => k_is); (case x_ga => k_is); (case x_gt => k_is); (case x_hd => k_is); (case x_ca => k_is); (case x_cg => k_is); (case x_ct => k_is); (case x_cm => k_is); (case x_k1 => kit_is); (case x_k2 => kit_is); (case x_k3 => kit_is); (case x_k4 => kit_is); (case x_k5 => kit_is))

