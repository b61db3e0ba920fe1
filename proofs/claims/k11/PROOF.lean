import PyProof.Rows.All
import Wide.All
import OpenK.AllK
import Wide.FinOn
import HandS.ForMost
import HandS.HeadHook2
import HandS.HeadEnd
import HandS.Head2
import HandS.Walk
import HandS.TupAny
import HandS.Star
import HandS.Flow
import KE.DataCmp
import KE.DataEq
import HandS.IsInst
import HandS.Deep
import HandS.TupLe
import HandS.Style
import KE.DataMinMax
import KE.DataAny
import KE.SortData
import KE.KTupSum
import HandS.Wide
import HandS.Text
import HandS.More
import HandS.Zip
import HandS.Comp
import HandS.ReplaceLit
import PyProof.RulesMatch
import PyProof.CollectIter
import PyProof.WalksMore
import HandS.FStr
import PyProof.SliceStr2
import KE.KRevSl
import HandS.NoneIn
import HandS.SetBool
import PyProof.EqKinds
import HandS.Iter
import PyProof.DictRoadsH
import PyProof.Rows.TupTab
import KE.KDictDisplayH
import HandS.DictComp
import HandS.GenList
import HandS.TupSets
import HandS.SortOrd
import KE.KDictSum
import HandS.ExcValue
import HandS.GenYield
import KE.KStateDown
import HandS.Head0
import HandS.Head1
import HandS.HeadHook1
import PySem.Challenge.RW_versionbumps_k11_whole_versions_so_many
set_option Elab.async false
set_option linter.all false
set_option maxRecDepth 100000
set_option maxHeartbeats 0
namespace DD
open PySem PySem.Spec PyProof.Rows L2

abbrev D := PyData
abbrev Sg := L2.St

/-! ### a dict whose keys are tuples of numbers and None: its object -/
def oHash : Option Int → Int
  | none => reduceHash 0xFCA86420
  | some i => hashInt i
abbrev VKey := List (Option Int)
def vHash (k : VKey) : Int := reduceHash (Builtin.Tuple.tupleHashOf (k.map oHash))
def oV : Option Int → V
  | none => .non
  | some i => .int i
def oD : Option Int → D
  | none => .none
  | some i => .int i
def keyND (k : VKey) : D := .tuple (k.map oD)
def b2i (b : Bool) : Int := if b = true then 1 else 0
/-- the key that data make: numbers, truth values (as numbers), None -/
def okD1 : D → Option (Option Int)
  | .none => some none
  | .int i => some (some i)
  | .bool b => some (some (b2i b))
  | _ => none
def okDs : List D → Option VKey
  | [] => some []
  | d :: ds => match okD1 d with
    | some x => (okDs ds).map (x :: ·)
    | none => none
def keyOf : D → Option VKey
  | .tuple ds => okDs ds
  | _ => none
abbrev DEnt := VKey × Addr × V
def entN (y : VKey × Addr × Value) : DictEntry := ⟨vHash y.1, .ref y.2.1, y.2.2⟩
def EntR (x : DEnt) (y : VKey × Addr × Value) : Prop := x.1 = y.1 ∧ x.2.1 = y.2.1 ∧ RelV x.2.2 y.2.2
def DObj (o : Obj) (xs : List DEnt) : Prop := xs.length ≤ sizeLine ∧ o.ExactDict ∧ ∃ (es : Array DictEntry) (ep : Nat) (ys : List (VKey × Addr × Value)), o.data = .dict es ep ∧ Paired EntR xs ys ∧ es.toList = ys.map entN ∧ (xs.map (·.1)).Nodup
/-- the dict at a, as it stands -/
def dnO (a : Addr) (o : Obj) : HO := .ext fun h => h.get? a = some o ∧ (a == sysModules) = false
mutual
/-- data as it stands in a heap: lists are tracked lists -/
inductive Dq (K : PySem.W.Frag) (H : Hp) : V → D → Prop
  | non : Dq K H .non .none
  | bl (b : Bool) : Dq K H (.bl b) (.bool b)
  | int (i : Int) : Dq K H (.int i) (.int i)
  | str (x : Str) : Dq K H (.str x) (.str x)
  | lst {a : Addr} {xs : List V} {ds : List D} : H a = some (.lst xs) → DqAll K H xs ds → Dq K H (.ref a) (.list ds)
  | tup {a : Addr} {xs : List V} {ds : List D} : SqT K H a xs → DqAll K H xs ds → Dq K H (.ref a) (.tuple ds)
  | dct {a : Addr} {o : Obj} {xs : List DEnt} {kvs : List (D × D)} : H a = some (dnO a o) → DObj o xs → DqKv K H xs kvs → Dq K H (.ref a) (.dict kvs)
inductive DqAll (K : PySem.W.Frag) (H : Hp) : List V → List D → Prop
  | nil : DqAll K H [] []
  | cons {v : V} {vs : List V} {d : D} {ds : List D} : Dq K H v d → DqAll K H vs ds → DqAll K H (v :: vs) (d :: ds)
inductive DqKv (K : PySem.W.Frag) (H : Hp) : List DEnt → List (D × D) → Prop
  | nil : DqKv K H [] []
  | cons {k : VKey} {b : Addr} {v : V} {xs : List DEnt} {kd d : D} {kvs : List (D × D)} : keyOf kd = some k → Dq K H (.ref b) kd → Dq K H v d → DqKv K H xs kvs → DqKv K H ((k, b, v) :: xs) ((kd, d) :: kvs)
end
/-- the tuple of a key -/
def KeyOk (K : PySem.W.Frag) (H : Hp) (k : VKey) (b : Addr) : Prop := ∃ kd, keyOf kd = some k ∧ Dq K H (.ref b) kd
mutual
theorem Dq.dp {K : PySem.W.Frag} {H : Hp} : ∀ {v : V} {d : D}, Dq K H v d → d.plain = true → L2.Dp K H v d
  | _, _, .non, _ => .non
  | _, _, .bl b, _ => .bl b
  | _, _, .int i, _ => .int i
  | _, _, .str x, _ => .str x
  | _, _, .lst h a, p => .lst (.of h) (DqAll.dp a (by simpa [PyData.plain] using p))
  | _, _, .tup h a, p => .tup h (DqAll.dp a (by simpa [PyData.plain] using p))
  | _, _, .dct _ _ _, p => by simp [PyData.plain] at p
theorem DqAll.dp {K : PySem.W.Frag} {H : Hp} : ∀ {vs : List V} {ds : List D}, DqAll K H vs ds → PyData.plainAll ds = true → L2.DpAll K H vs ds
  | _, _, .nil, _ => .nil
  | _, _, .cons a b, p => by
    rw [PyData.plainAll, Bool.and_eq_true] at p
    exact .cons (Dq.dp a p.1) (DqAll.dp b p.2)
end
theorem sqT_mono {K : PySem.W.Frag} {H H' : Hp} {a : Addr} {xs : List V} (e : Same H H') (h : SqT K H a xs) : SqT K H' a xs := by
  rcases h with (h | ⟨o, h⟩) | h
  · exact .inl (.inl (e _ _ h))
  · exact .inl (.inr ⟨o, e _ _ h⟩)
  · exact .inr h
mutual
theorem dp_mono {K : PySem.W.Frag} {H H' : Hp} (e : Same H H') : ∀ {v : V} {d : D}, Dq K H v d → Dq K H' v d
  | _, _, .non => .non
  | _, _, .bl b => .bl b
  | _, _, .int i => .int i
  | _, _, .str x => .str x
  | _, _, .lst h a => .lst (e _ _ h) (dpAll_mono e a)
  | _, _, .tup h a => .tup (sqT_mono e h) (dpAll_mono e a)
  | _, _, .dct h d a => .dct (e _ _ h) d (dpKv_mono e a)
theorem dpAll_mono {K : PySem.W.Frag} {H H' : Hp} (e : Same H H') : ∀ {vs : List V} {ds : List D}, DqAll K H vs ds → DqAll K H' vs ds
  | _, _, .nil => .nil
  | _, _, .cons a b => .cons (dp_mono e a) (dpAll_mono e b)
theorem dpKv_mono {K : PySem.W.Frag} {H H' : Hp} (e : Same H H') : ∀ {xs : List DEnt} {kvs : List (D × D)}, DqKv K H xs kvs → DqKv K H' xs kvs
  | _, _, .nil => .nil
  | _, _, .cons k b a c => .cons k (dp_mono e b) (dp_mono e a) (dpKv_mono e c)
end
theorem keyOk_mono {K : PySem.W.Frag} {H H' : Hp} {k : VKey} {b : Addr} (e : Same H H') (h : KeyOk K H k b) : KeyOk K H' k b := by
  obtain ⟨kd, h1, h2⟩ := h
  exact ⟨kd, h1, dp_mono e h2⟩
section
variable {K : PySem.W.Frag} {H : Hp}
theorem dpAll_len : ∀ {vs : List V} {ds : List D}, DqAll K H vs ds → vs.length = ds.length
  | _, _, .nil => rfl
  | _, _, .cons _ b => by simp [dpAll_len b]
theorem dpAll_get : ∀ {vs : List V} {ds : List D} {i : Nat} {d : D}, DqAll K H vs ds → ds[i]? = some d → ∃ v, vs[i]? = some v ∧ Dq K H v d
  | _, _, _, _, .nil, e => by simp at e
  | _, _, 0, _, .cons a _, e => by simp at e; subst e; exact ⟨_, rfl, a⟩
  | _, _, i + 1, d, .cons _ b, e => by
    obtain ⟨v, h1, h2⟩ := dpAll_get (i := i) (d := d) b (by simpa using e)
    exact ⟨v, by simpa using h1, h2⟩
theorem dpAll_getV : ∀ {vs : List V} {ds : List D} {i : Nat} {v : V}, DqAll K H vs ds → vs[i]? = some v → ∃ d, ds[i]? = some d ∧ Dq K H v d
  | _, _, _, _, .nil, e => by simp at e
  | _, _, 0, _, .cons a _, e => by simp at e; subst e; exact ⟨_, rfl, a⟩
  | _, _, i + 1, d, .cons _ b, e => by
    obtain ⟨v, h1, h2⟩ := dpAll_getV (i := i) (v := d) b (by simpa using e)
    exact ⟨v, by simpa using h1, h2⟩
theorem dpAll_app : ∀ {vs ws : List V} {ds es : List D}, DqAll K H vs ds → DqAll K H ws es → DqAll K H (vs ++ ws) (ds ++ es)
  | _, _, _, _, .nil, r => r
  | _, _, _, _, .cons a b, r => .cons a (dpAll_app b r)
theorem dpAll_take : ∀ {vs : List V} {ds : List D} (n : Nat), DqAll K H vs ds → DqAll K H (vs.take n) (ds.take n)
  | _, _, 0, _ => .nil
  | _, _, _ + 1, .nil => .nil
  | _, _, n + 1, .cons a b => .cons a (dpAll_take n b)
theorem dpAll_drop : ∀ {vs : List V} {ds : List D} (n : Nat), DqAll K H vs ds → DqAll K H (vs.drop n) (ds.drop n)
  | _, _, 0, r => r
  | _, _, _ + 1, .nil => .nil
  | _, _, n + 1, .cons _ b => dpAll_drop n b
theorem dpAll_set : ∀ {vs : List V} {ds : List D} (n : Nat) {v : V} {d : D}, DqAll K H vs ds → Dq K H v d → DqAll K H (vs.set n v) (ds.set n d)
  | _, _, _, _, _, .nil, _ => .nil
  | _, _, 0, _, _, .cons _ b, r => .cons r b
  | _, _, n + 1, _, _, .cons a b, r => .cons a (dpAll_set n b r)
theorem dpAll_ints : ∀ (ns : List Int), DqAll K H (ns.map V.int) (ns.map PyData.int)
  | [] => .nil
  | n :: r => .cons (.int n) (dpAll_ints r)
theorem dpAll_ints_inv : ∀ {ns : List Int} {vs : List V}, DqAll K H vs (ns.map PyData.int) → vs = ns.map V.int
  | [], _, .nil => rfl
  | n :: r, _, .cons (.int _) b => by rw [dpAll_ints_inv b]; rfl
end

/-! ### hidden addresses -/
open Classical in
noncomputable def hid (O : Addr → Prop) (H : Hp) : Hp := fun a => if O a then none else H a
theorem hid_some {O : Addr → Prop} {H : Hp} {a : Addr} {o : HO} (h : hid O H a = some o) : ¬ O a ∧ H a = some o := by
  unfold hid at h
  by_cases q : O a
  · rw [if_pos q] at h; cases h
  · rw [if_neg q] at h; exact ⟨q, h⟩
theorem hid_of {O : Addr → Prop} {H : Hp} {a : Addr} {o : HO} (q : ¬ O a) (h : H a = some o) : hid O H a = some o := by
  unfold hid; rw [if_neg q]; exact h
theorem hid_le {O : Addr → Prop} {H : Hp} : Same (hid O H) H := fun _ _ h => (hid_some h).2
/-- all outside O is kept -/
def Fr (O : Addr → Prop) (H H' : Hp) : Prop := ∀ a o, ¬ O a → H a = some o → H' a = some o
theorem hid_same {O O' : Addr → Prop} {H H' : Hp} (hO : ∀ a, O' a → O a ∨ H a = none) (f : Fr O H H') : Same (hid O H) (hid O' H') := fun a o h => by
  obtain ⟨h1, h2⟩ := hid_some h
  refine hid_of (fun q => ?_) (f a o h1 h2)
  rcases hO a q with z | z
  · exact h1 z
  · rw [z] at h2; cases h2
theorem fr_same {O : Addr → Prop} {H H' : Hp} (e : Same H H') : Fr O H H' := fun a o _ h => e a o h
theorem hid_same0 {O : Addr → Prop} {H H' : Hp} (e : Same H H') : Same (hid O H) (hid O H') := hid_same (fun _ q => .inl q) (fr_same e)

/-! ### slots, tape, state -/
inductive Sl where
  | un | d (x : D) | own (xs : List D) | tape | dct (kvs : List (D × D))
/-- what is one's own: a list, a dict -/
inductive Bx where
  | l (xs : List D) | k (kvs : List (D × D))
def Bx.sl : Bx → Sl
  | .l xs => .own xs
  | .k kvs => .dct kvs
structure Tp where
  cells : List Int
  pos : Int
  cur : Int
structure ES where
  sl : List Sl
  tp : Option Tp
inductive Rv where
  | d (x : D) | own (i : Nat) | tape
def ES.set (e : ES) (i : Nat) (s : Sl) : ES := ⟨e.sl.set i s, e.tp⟩

structure Ct where
  K : PySem.W.Frag
  O : Addr → Prop
  t : Addr
  tp : Bool
  H0 : Hp
structure Ct.Ok (c : Ct) : Prop where
  out : ∀ a, c.O a → c.H0 a ≠ none
  hot : c.tp = true → c.O c.t

def OO (c : Ct) (σ : Sg) (sl : List Sl) (a : Addr) : Prop := c.O a ∨ ∃ (i : Nat) (xs : Bx), sl[i]? = some xs.sl ∧ σ[i]? = some (some (.ref a))
def TapeAt (K : PySem.W.Frag) (O : Addr → Prop) (H : Hp) (t : Addr) (τ : Tp) : Prop :=
  ∃ l : Addr, H t = some (.lst [.ref l, .int τ.pos, .int τ.cur]) ∧ Dq K (hid O H) (.ref l) (.list (τ.cells.map .int))
def SlR (c : Ct) (σ : Sg) (H : Hp) (sl : List Sl) (i : Nat) : Sl → Prop
  | .un => True
  | .d x => ∃ v, σ[i]? = some (some v) ∧ Dq c.K (hid (OO c σ sl) H) v x
  | .own xs => ∃ (a : Addr) (vs : List V), σ[i]? = some (some (.ref a)) ∧ c.H0 a = none ∧ H a = some (.lst vs) ∧ DqAll c.K (hid (OO c σ sl) H) vs xs
  | .tape => σ[i]? = some (some (.ref c.t))
  | .dct kvs => ∃ (a : Addr) (o : Obj) (xs : List DEnt), σ[i]? = some (some (.ref a)) ∧ c.H0 a = none ∧ H a = some (dnO a o) ∧ DObj o xs ∧ DqKv c.K (hid (OO c σ sl) H) xs kvs
structure Rel (c : Ct) (σ : Sg) (H : Hp) (e : ES) : Prop where
  len : σ.length = e.sl.length
  ok : c.Ok
  tpc : e.tp.isSome = c.tp
  ext : ∀ (a : Addr) (o : HO), c.H0 a = some o → (c.tp = true → a ≠ c.t) → H a = some o
  slots : ∀ (i : Nat) (s : Sl), e.sl[i]? = some s → SlR c σ H e.sl i s
  inj : ∀ (i j : Nat) (xs ys : Bx) (a : Addr), e.sl[i]? = some xs.sl → e.sl[j]? = some ys.sl → σ[i]? = some (some (.ref a)) → σ[j]? = some (some (.ref a)) → i = j
  tp : ∀ τ : Tp, e.tp = some τ → TapeAt c.K (OO c σ e.sl) H c.t τ
structure Stp (c : Ct) (σ : Sg) (e : ES) (H : Hp) (e' : ES) (H' : Hp) : Prop where
  rel : Rel c σ H' e'
  shr : ∀ a, OO c σ e'.sl a → OO c σ e.sl a
  fr : Fr (OO c σ e.sl) H H'
def RvR (c : Ct) (σ : Sg) (H : Hp) (sl : List Sl) (v : V) : Rv → Prop
  | .d x => Dq c.K (hid (OO c σ sl) H) v x
  | .own i => σ[i]? = some (some v)
  | .tape => v = .ref c.t
def RvRs (c : Ct) (σ : Sg) (H : Hp) (sl : List Sl) : List V → List Rv → Prop
  | [], [] => True
  | v :: vs, r :: rs => RvR c σ H sl v r ∧ RvRs c σ H sl vs rs
  | _, _ => False
section
variable {c : Ct} {σ : Sg} {H H1 H2 H' : Hp} {e e1 e2 e' : ES} {v : V} {r : Rv}
theorem SlR.mine {c : Ct} {σ : Sg} {H : Hp} {sl : List Sl} {i : Nat} : ∀ {b : Bx}, SlR c σ H sl i b.sl → ∃ (a : Addr) (o : HO), σ[i]? = some (some (.ref a)) ∧ c.H0 a = none ∧ H a = some o
  | .l _, h => let ⟨a, vs, h1, h2, h3, _⟩ := h; ⟨a, _, h1, h2, h3⟩
  | .k _, h => let ⟨a, o, xs, h1, h2, h3, _⟩ := h; ⟨a, _, h1, h2, h3⟩
/-- every hidden address is tracked -/
theorem Rel.hidden (R : Rel c σ H e) : ∀ a, OO c σ e.sl a → H a ≠ none := fun a q => by
  rcases q with q | ⟨i, xs, h1, h2⟩
  · by_cases z : c.tp = true ∧ a = c.t
    · obtain ⟨z1, rfl⟩ := z
      obtain ⟨τ, eτ⟩ := Option.isSome_iff_exists.mp (R.tpc.trans z1)
      obtain ⟨l, hl, _⟩ := R.tp τ eτ
      rw [hl]; exact Option.some_ne_none _
    · cases ho : c.H0 a with
      | none => exact absurd ho (R.ok.out a q)
      | some o =>
        rw [R.ext a o ho (fun z1 z2 => z ⟨z1, z2⟩)]
        exact Option.some_ne_none _
  · obtain ⟨b, vs, g1, _, g3⟩ := (R.slots i _ h1).mine
    rw [h2] at g1
    cases g1
    rw [g3]; exact Option.some_ne_none _
theorem Stp.same (S : Stp c σ e H e' H') : Same (hid (OO c σ e.sl) H) (hid (OO c σ e'.sl) H') := hid_same (fun a q => .inl (S.shr a q)) S.fr
theorem Stp.refl (R : Rel c σ H e) : Stp c σ e H e H := ⟨R, fun _ q => q, fun _ _ _ h => h⟩
theorem Stp.trans (S : Stp c σ e H e1 H1) (T : Stp c σ e1 H1 e2 H2) : Stp c σ e H e2 H2 :=
  ⟨T.rel, fun a q => S.shr a (T.shr a q), fun a o n h => T.fr a o (fun q => n (S.shr a q)) (S.fr a o n h)⟩
theorem RvR.step (S : Stp c σ e H e' H') : ∀ {r : Rv}, RvR c σ H e.sl v r → RvR c σ H' e'.sl v r
  | .d x, h => dp_mono S.same h
  | .own i, h => h
  | .tape, h => h
theorem RvRs.step (S : Stp c σ e H e' H') : ∀ {vs : List V} {rs : List Rv}, RvRs c σ H e.sl vs rs → RvRs c σ H' e'.sl vs rs
  | [], [], _ => True.intro
  | v :: vs, r :: rs, h => ⟨RvR.step S h.1, RvRs.step S h.2⟩
  | [], _ :: _, h => h.elim
  | _ :: _, [], h => h.elim
/-- a heap that grew: new objects only -/
theorem Rel.grow (R : Rel c σ H e) (s : Same H H') : Rel c σ H' e := by
  have hs := hid_same0 (O := OO c σ e.sl) s
  refine ⟨R.len, R.ok, R.tpc, fun a o h z => s a o (R.ext a o h z), fun i x hx => ?_, R.inj, fun τ hτ => ?_⟩
  · have q := R.slots i x hx
    cases x with
    | un => exact True.intro
    | d x => obtain ⟨v, h1, h2⟩ := q; exact ⟨v, h1, dp_mono hs h2⟩
    | own xs => obtain ⟨a, vs, h1, h2, h3, h4⟩ := q; exact ⟨a, vs, h1, h2, s _ _ h3, dpAll_mono hs h4⟩
    | dct kvs => obtain ⟨a, o, xs, h1, h2, h3, h4, h5⟩ := q; exact ⟨a, o, xs, h1, h2, s _ _ h3, h4, dpKv_mono hs h5⟩
    | tape => exact q
  · obtain ⟨l, h1, h2⟩ := R.tp τ hτ
    exact ⟨l, s _ _ h1, dp_mono hs h2⟩
theorem Stp.grow (R : Rel c σ H e) (s : Same H H') : Stp c σ e H e H' := ⟨R.grow s, fun _ q => q, fr_same s⟩

/-! ### reading a value -/
def rd (e : ES) : Rv → Option D
  | .d x => some x
  | .own i => match e.sl[i]? with
    | some (.own xs) => some (.list xs)
    | some (.dct kvs) => some (.dict kvs)
    | _ => none
  | .tape => none
def rds (e : ES) : List Rv → Option (List D)
  | [] => some []
  | r :: rs => match rd e r with
    | some d => (rds e rs).map (d :: ·)
    | none => none
/-- what is read at v: data that stands, or the list of one's own -/
def Rb (K : PySem.W.Frag) (O : Addr → Prop) (H : Hp) (v : V) (d : D) : Prop :=
  Dq K (hid O H) v d ∨ (∃ (a : Addr) (vs : List V) (xs : List D), v = .ref a ∧ d = .list xs ∧ H a = some (.lst vs) ∧ DqAll K (hid O H) vs xs) ∨
    ∃ (a : Addr) (o : Obj) (xs : List DEnt) (kvs : List (D × D)), v = .ref a ∧ d = .dict kvs ∧ H a = some (dnO a o) ∧ DObj o xs ∧ DqKv K (hid O H) xs kvs
def RbAll (K : PySem.W.Frag) (O : Addr → Prop) (H : Hp) : List V → List D → Prop
  | [], [] => True
  | v :: vs, d :: ds => Rb K O H v d ∧ RbAll K O H vs ds
  | _, _ => False
theorem RvR.rb (R : Rel c σ H e) {d : D} : ∀ {r : Rv}, RvR c σ H e.sl v r → rd e r = some d → Rb c.K (OO c σ e.sl) H v d
  | .d x, h, q => by cases q; exact .inl h
  | .own i, h, q => by
    unfold rd at q
    dsimp only at q
    cases hs : e.sl[i]? with
    | none => rw [hs] at q; cases q
    | some s =>
      rw [hs] at q
      cases s with
      | own xs =>
        cases q
        obtain ⟨a, vs, h1, _, h3, h4⟩ := R.slots i _ hs
        have h' : σ[i]? = some (some v) := h
        rw [h'] at h1
        cases h1
        exact .inr (.inl ⟨a, vs, xs, rfl, rfl, h3, h4⟩)
      | dct kvs =>
        cases q
        obtain ⟨a, o, xs, h1, _, h3, h4, h5⟩ := R.slots i _ hs
        have h' : σ[i]? = some (some v) := h
        rw [h'] at h1
        cases h1
        exact .inr (.inr ⟨a, o, xs, kvs, rfl, rfl, h3, h4, h5⟩)
      | _ => cases q
  | .tape, _, q => by cases q
theorem RvRs.rb (R : Rel c σ H e) : ∀ {vs : List V} {rs : List Rv} {ds : List D}, RvRs c σ H e.sl vs rs → rds e rs = some ds → RbAll c.K (OO c σ e.sl) H vs ds
  | [], [], _, _, q => by cases q; exact True.intro
  | v :: vs, r :: rs, ds, h, q => by
    unfold rds at q
    cases h1 : rd e r with
    | none => rw [h1] at q; cases q
    | some d =>
      rw [h1] at q
      dsimp only at q
      obtain ⟨ds', h2, rfl⟩ := Option.map_eq_some_iff.mp q
      exact ⟨h.1.rb R h1, RvRs.rb R h.2 h2⟩
  | [], _ :: _, _, h, _ => h.elim
  | _ :: _, [], _, h, _ => h.elim
end
section
variable {K : PySem.W.Frag} {O : Addr → Prop} {H : Hp} {v : V} {d : D}
theorem Rb.dp (h : Rb K O H v d) : Dq K H v d := by
  rcases h with h | ⟨a, vs, xs, rfl, rfl, h1, h2⟩ | ⟨a, o, xs, kvs, rfl, rfl, h1, h2, h3⟩
  · exact dp_mono hid_le h
  · exact .lst h1 (dpAll_mono hid_le h2)
  · exact .dct h1 h2 (dpKv_mono hid_le h3)
/-- a list that is read: its items stand -/
theorem Rb.list {xs : List D} (h : Rb K O H v (.list xs)) : ∃ (a : Addr) (vs : List V), v = .ref a ∧ H a = some (.lst vs) ∧ DqAll K (hid O H) vs xs := by
  rcases h with h | ⟨a, vs, xs', rfl, e, h1, h2⟩ | ⟨_, _, _, _, _, e, _⟩
  · cases h with
    | lst h1 h2 => exact ⟨_, _, rfl, hid_le _ _ h1, h2⟩
  · cases e; exact ⟨a, vs, rfl, h1, h2⟩
  · cases e
/-- a dict that is read -/
theorem Rb.dict {kvs : List (D × D)} (h : Rb K O H v (.dict kvs)) : ∃ (a : Addr) (o : Obj) (xs : List DEnt), v = .ref a ∧ H a = some (dnO a o) ∧ DObj o xs ∧ DqKv K (hid O H) xs kvs := by
  rcases h with h | ⟨_, _, _, _, e, _⟩ | ⟨a, o, xs, kvs', rfl, e, h1, h2, h3⟩
  · cases h with
    | dct h1 h2 h3 => exact ⟨_, _, _, rfl, hid_le _ _ h1, h2, h3⟩
  · cases e
  · cases e; exact ⟨a, o, xs, rfl, h1, h2, h3⟩
theorem Rb.data (h : Rb K O H v d) (n : ∀ xs, d ≠ .list xs) (n2 : ∀ kvs, d ≠ .dict kvs) : Dq K (hid O H) v d := by
  rcases h with h | ⟨a, vs, xs, rfl, rfl, h1, h2⟩ | ⟨_, _, _, kvs, _, e, _⟩
  · exact h
  · exact absurd rfl (n xs)
  · exact absurd e (n2 kvs)
theorem Rb.tup {xs : List D} (h : Rb K O H v (.tuple xs)) : ∃ (a : Addr) (vs : List V), v = .ref a ∧ SqT K H a vs ∧ DqAll K (hid O H) vs xs := by
  cases h.data (fun _ z => nomatch z) (fun _ z => nomatch z) with
  | tup h1 h2 => exact ⟨_, _, rfl, sqT_mono hid_le h1, h2⟩
theorem Rb.int {i : Int} (h : Rb K O H v (.int i)) : v = .int i := by
  cases h.data (fun _ z => nomatch z) (fun _ z => nomatch z); rfl
theorem Rb.str {i : Str} (h : Rb K O H v (.str i)) : v = .str i := by
  cases h.data (fun _ z => nomatch z) (fun _ z => nomatch z); rfl
theorem Rb.bool {i : Bool} (h : Rb K O H v (.bool i)) : v = .bl i := by
  cases h.data (fun _ z => nomatch z) (fun _ z => nomatch z); rfl
theorem Rb.none (h : Rb K O H v .none) : v = .non := by
  cases h.data (fun _ z => nomatch z) (fun _ z => nomatch z); rfl
end

/-! ### readings that compute -/
abbrev FX := ES → Option (Rv × ES)
abbrev FT := ES → Option (Bool × ES)
abbrev FA := ES → Option (List Rv × ES)
abbrev FL := ES → Option (List D × ES)
def tD (c : Ct) (f : FX) : TE := fun σ H Q => ∃ e, Rel c σ H e ∧ ∃ r e', f e = some (r, e') ∧ ∀ v H', Stp c σ e H e' H' → RvR c σ H' e'.sl v r → Q v H'
def tT (c : Ct) (f : FT) : TT := fun σ H Q => ∃ e, Rel c σ H e ∧ ∃ b e', f e = some (b, e') ∧ ∀ H', Stp c σ e H e' H' → Q b H'
def tA (c : Ct) (f : FA) : TA := fun σ H Q => ∃ e, Rel c σ H e ∧ ∃ rs e', f e = some (rs, e') ∧ ∀ vs H', Stp c σ e H e' H' → RvRs c σ H' e'.sl vs rs → Q vs H'
def Ct.plus (c : Ct) (p : Addr) (vs : List V) : Ct := ⟨c.K, fun a => c.O a ∨ a = p, c.t, c.tp, upd c.H0 p (.lst vs)⟩
/-- a new list -/
def tL (c : Ct) (f : FL) : TE := fun σ H Q => ∃ e, Rel c σ H e ∧ ∃ xs e', f e = some (xs, e') ∧ ∀ p vs H', c.H0 p = none → H' p = some (.lst vs) → Rel (c.plus p vs) σ H' e' → (∀ a, OO c σ e'.sl a → OO c σ e.sl a) → Fr (OO c σ e.sl) H H' →
  DqAll c.K (hid (OO (c.plus p vs) σ e'.sl) H') vs xs → Q (.ref p) H'
structure DE (X : Cx) (x : Expr) (f : FX) : Prop where
  pe : ∀ c : Ct, c.K = X.K → PE X x (tD c f)
structure DT (X : Cx) (x : Expr) (f : FT) : Prop where
  pt : ∀ c : Ct, c.K = X.K → PT X x (tT c f)
structure DW (X : Cx) (x : Expr) (f : FT) : Prop where
  pw : ∀ c : Ct, c.K = X.K → PW X x (tT c f)
structure DA (X : Cx) (xs : List Expr) (f : FA) : Prop where
  pa : ∀ c : Ct, c.K = X.K → PA X xs (tA c f)
structure DL (X : Cx) (x : Expr) (f : FL) : Prop where
  pl : ∀ c : Ct, c.K = X.K → PE X x (tL c f)
theorem pe_imp {X : Cx} {x : Expr} {t t' : TE} (h : PE X x t) (i : ∀ σ H Q, t' σ H Q → t σ H Q) : PE X x t' := ⟨fun pins s σ H Q I q => h.run pins s σ H Q I (i σ H Q q)⟩
theorem pt_imp {X : Cx} {x : Expr} {t t' : TT} (h : PT X x t) (i : ∀ σ H Q, t' σ H Q → t σ H Q) : PT X x t' := ⟨fun pins s σ H Q I q => h.run pins s σ H Q I (i σ H Q q)⟩
theorem pw_imp {X : Cx} {x : Expr} {t t' : TT} (h : PW X x t) (i : ∀ σ H Q, t' σ H Q → t σ H Q) : PW X x t' := ⟨fun w pins s σ H Q I q => h.run w pins s σ H Q I (i σ H Q q)⟩
theorem pa_imp {X : Cx} {x : List Expr} {t t' : TA} (h : PA X x t) (i : ∀ σ H Q, t' σ H Q → t σ H Q) : PA X x t' := ⟨fun p pins s σ H Q I q => h.run p pins s σ H Q I (i σ H Q q)⟩
theorem ps_imp {X : Cx} {x : Stmt} {t t' : TS} (h : PS X x t) (i : ∀ D σ H, t' D σ H → t D σ H) : PS X x t' := ⟨fun pins s σ H D I q => h.run pins s σ H D I (i D σ H q)⟩
theorem pss_imp {X : Cx} {x : List Stmt} {t t' : TS} (h : PSs X x t) (i : ∀ D σ H, t' D σ H → t D σ H) : PSs X x t' := ⟨fun pins s σ H D I q => h.run pins s σ H D I (i D σ H q)⟩
end DD

namespace DD
open PySem PySem.Spec PyProof.Rows L2

/-! ### freezing, new lists -/
section
variable {c : Ct} {σ : Sg} {H H1 H2 H' : Hp} {e e1 e2 e' : ES} {v : V} {r : Rv}
theorem ES.set_sl (e : ES) (i : Nat) (s : Sl) : (e.set i s).sl = e.sl.set i s := rfl
theorem ES.set_tp (e : ES) (i : Nat) (s : Sl) : (e.set i s).tp = e.tp := rfl
theorem get_set_eq {sl : List Sl} {i : Nat} {s s' : Sl} (h : sl[i]? = some s') : (sl.set i s)[i]? = some s := by
  have hi : i < sl.length := (List.getElem?_eq_some_iff.mp h).1
  rw [List.getElem?_set_self hi]
theorem own_set {sl : List Sl} {i j : Nat} {x : D} {xs : Bx} (h : (sl.set i (.d x))[j]? = some xs.sl) : j ≠ i ∧ sl[j]? = some xs.sl := by
  by_cases q : i = j
  · subst q
    by_cases hi : i < sl.length
    · rw [List.getElem?_set_self hi] at h; cases xs <;> cases h
    · rw [List.getElem?_eq_none_iff.mpr (by simp; omega)] at h; cases h
  · rw [List.getElem?_set_ne q] at h
    exact ⟨fun z => q z.symm, h⟩
/-- slots that are one's own no more -/
theorem OO.sub {sl sl' : List Sl} (h : ∀ (j : Nat) (xs : Bx), sl'[j]? = some xs.sl → ∃ ys : Bx, sl[j]? = some ys.sl) : ∀ a, OO c σ sl' a → OO c σ sl a := fun a q => by
  rcases q with q | ⟨i, xs, h1, h2⟩
  · exact .inl q
  · obtain ⟨ys, h3⟩ := h i xs h1
    exact .inr ⟨i, ys, h3, h2⟩
def Bx.D : Bx → D
  | .l xs => .list xs
  | .k kvs => .dict kvs
theorem Rel.freeze (R : Rel c σ H e) {i : Nat} {xs : Bx} (h : e.sl[i]? = some xs.sl) : Stp c σ e H (e.set i (.d xs.D)) H := by
  have sub : ∀ a, OO c σ (e.sl.set i (.d xs.D)) a → OO c σ e.sl a := OO.sub fun j ys q => ⟨ys, (own_set q).2⟩
  have hs : Same (hid (OO c σ e.sl) H) (hid (OO c σ (e.sl.set i (.d xs.D))) H) := hid_same (fun a q => .inl (sub a q)) fun _ _ _ h => h
  refine ⟨⟨?_, R.ok, R.tpc, R.ext, fun j s hj => ?_, fun j k ys zs a h1 h2 => ?_, fun τ hτ => ?_⟩, sub, fun _ _ _ h => h⟩
  · rw [ES.set_sl, List.length_set]; exact R.len
  · rw [ES.set_sl] at hj ⊢
    by_cases q : i = j
    · subst q
      rw [get_set_eq h] at hj
      cases hj
      have no : ∀ a, σ[i]? = some (some (.ref a)) → c.H0 a = none → ¬ OO c σ (e.sl.set i (.d xs.D)) a := fun a h1 h2 z => by
        rcases z with z | ⟨k, ys, h5, h6⟩
        · exact R.ok.out a z h2
        · obtain ⟨n, h5⟩ := own_set h5
          exact n (R.inj k i ys xs a h5 h h6 h1)
      have z0 := R.slots i _ h
      cases xs with
      | l xs =>
        obtain ⟨a, vs, h1, h2, h3, h4⟩ := z0
        exact ⟨.ref a, h1, .lst (hid_of (no a h1 h2) h3) (dpAll_mono hs h4)⟩
      | k kvs =>
        obtain ⟨a, o, es, h1, h2, h3, h4, h5⟩ := z0
        exact ⟨.ref a, h1, .dct (hid_of (no a h1 h2) h3) h4 (dpKv_mono hs h5)⟩
    · rw [List.getElem?_set_ne q] at hj
      have z := R.slots j s hj
      cases s with
      | un => exact True.intro
      | d x => obtain ⟨v, h1, h2⟩ := z; exact ⟨v, h1, dp_mono hs h2⟩
      | own ys => obtain ⟨a, vs, h1, h2, h3, h4⟩ := z; exact ⟨a, vs, h1, h2, h3, dpAll_mono hs h4⟩
      | dct ys => obtain ⟨a, o, vs, h1, h2, h3, h4, h5⟩ := z; exact ⟨a, o, vs, h1, h2, h3, h4, dpKv_mono hs h5⟩
      | tape => exact z
  · rw [ES.set_sl] at h1 h2
    exact R.inj j k ys zs a (own_set h1).2 (own_set h2).2
  · obtain ⟨l, h1, h2⟩ := R.tp τ hτ
    exact ⟨l, h1, dp_mono hs h2⟩
/-- a value as data: a list of one's own is given away -/
def fz : Rv → ES → Option (D × ES)
  | .d x, e => some (x, e)
  | .own i, e => match e.sl[i]? with
    | some (.own xs) => some (.list xs, e.set i (.d (.list xs)))
    | some (.dct kvs) => some (.dict kvs, e.set i (.d (.dict kvs)))
    | some (.d x) => some (x, e)
    | _ => none
  | .tape, _ => none
theorem fz_ok {d : D} (R : Rel c σ H e) : ∀ {r : Rv}, RvR c σ H e.sl v r → fz r e = some (d, e') → Stp c σ e H e' H ∧ Dq c.K (hid (OO c σ e'.sl) H) v d
  | .d x, h, q => by cases q; exact ⟨Stp.refl R, h⟩
  | .own i, h, q => by
    have h' : σ[i]? = some (some v) := h
    unfold fz at q
    dsimp only at q
    cases hs : e.sl[i]? with
    | none => rw [hs] at q; cases q
    | some s =>
      rw [hs] at q
      cases s with
      | own xs =>
        cases q
        have S := R.freeze (xs := .l xs) hs
        refine ⟨S, ?_⟩
        obtain ⟨v', h1, h2⟩ := S.rel.slots i (.d (.list xs)) (by rw [ES.set_sl]; exact get_set_eq hs)
        rw [h'] at h1; cases h1
        exact h2
      | dct kvs =>
        cases q
        have S := R.freeze (xs := .k kvs) hs
        refine ⟨S, ?_⟩
        obtain ⟨v', h1, h2⟩ := S.rel.slots i (.d (.dict kvs)) (by rw [ES.set_sl]; exact get_set_eq hs)
        rw [h'] at h1; cases h1
        exact h2
      | d x =>
        cases q
        obtain ⟨v', h1, h2⟩ := R.slots i _ hs
        rw [h'] at h1; cases h1
        exact ⟨Stp.refl R, h2⟩
      | _ => cases q
  | .tape, _, q => by cases q
def fzs : List Rv → ES → Option (List D × ES)
  | [], e => some ([], e)
  | r :: rs, e => match fz r e with
    | some (d, e1) => (match fzs rs e1 with
      | some (ds, e2) => some (d :: ds, e2)
      | none => none)
    | none => none
theorem fzs_ok : ∀ {vs : List V} {rs : List Rv} {ds : List D} {e e' : ES}, Rel c σ H e → RvRs c σ H e.sl vs rs → fzs rs e = some (ds, e') → Stp c σ e H e' H ∧ DqAll c.K (hid (OO c σ e'.sl) H) vs ds
  | [], [], _, _, _, R, _, q => by cases q; exact ⟨Stp.refl R, .nil⟩
  | v :: vs, r :: rs, ds, e, e', R, h, q => by
    unfold fzs at q
    cases h1 : fz r e with
    | none => rw [h1] at q; cases q
    | some p =>
      obtain ⟨d, e1⟩ := p
      rw [h1] at q
      dsimp only at q
      cases h2 : fzs rs e1 with
      | none => rw [h2] at q; cases q
      | some p =>
        obtain ⟨ds', e2⟩ := p
        rw [h2] at q
        cases q
        obtain ⟨S, hd⟩ := fz_ok R h.1 h1
        obtain ⟨S2, hds⟩ := fzs_ok S.rel (RvRs.step S h.2) h2
        exact ⟨S.trans S2, .cons (dp_mono S2.same hd) hds⟩
  | [], _ :: _, _, _, _, _, h, _ => h.elim
  | _ :: _, [], _, _, _, _, h, _ => h.elim
theorem Rel.fresh (R : Rel c σ H e) {p : Addr} (h : H p = none) : c.H0 p = none := by
  cases ho : c.H0 p with
  | none => rfl
  | some o =>
    by_cases z : c.tp = true ∧ p = c.t
    · obtain ⟨z1, rfl⟩ := z
      obtain ⟨τ, eτ⟩ := Option.isSome_iff_exists.mp (R.tpc.trans z1)
      obtain ⟨l, hl, _⟩ := R.tp τ eτ
      rw [hl] at h; cases h
    · rw [R.ext p o ho (fun z1 z2 => z ⟨z1, z2⟩)] at h; cases h
theorem OO.plus {p : Addr} {vs : List V} {sl : List Sl} : ∀ a, OO (c.plus p vs) σ sl a ↔ (OO c σ sl a ∨ a = p) := fun a => by
  constructor
  · rintro ((q | q) | q)
    · exact .inl (.inl q)
    · exact .inr q
    · exact .inl (.inr q)
  · rintro ((q | q) | q)
    · exact .inl (.inl q)
    · exact .inr q
    · exact .inl (.inr q)
theorem hid_plus {p : Addr} {vs : List V} {sl : List Sl} : Same (hid (OO (c.plus p vs) σ sl) H) (hid (OO c σ sl) H) := hid_same (fun a q => .inl ((OO.plus a).mpr (.inl q))) fun _ _ _ h => h
/-- a new list at p is tracked apart -/
theorem Rel.plus (R : Rel c σ H e) {p : Addr} {vs : List V} (hp : H p = none) (hp' : H' p = some (.lst vs)) (s : Same H H') : Rel (c.plus p vs) σ H' e := by
  have hn : ¬ OO c σ e.sl p := fun q => R.hidden p q hp
  have h0 := R.fresh hp
  have hs : Same (hid (OO c σ e.sl) H) (hid (OO (c.plus p vs) σ e.sl) H') := hid_same (fun a q => by
    rcases (OO.plus a).mp q with q | q
    · exact .inl q
    · subst q; exact .inr hp) (fr_same s)
  refine ⟨R.len, ⟨fun a q => ?_, fun z => .inl (R.ok.hot z)⟩, R.tpc, fun a o h z => ?_, fun i x hx => ?_, R.inj, fun τ hτ => ?_⟩
  rotate_left
  · by_cases q : a = p
    · subst q
      have h' : upd c.H0 a (.lst vs) a = some o := h
      rw [upd_same] at h'; cases h'
      exact hp'
    · have h' : upd c.H0 p (.lst vs) a = some o := h
      rw [upd_ne q] at h'
      exact s a o (R.ext a o h' z)
  · have q := R.slots i x hx
    cases x with
    | un => exact True.intro
    | d x => obtain ⟨v, h1, h2⟩ := q; exact ⟨v, h1, dp_mono hs h2⟩
    | own xs =>
      obtain ⟨a, ws, h1, h2, h3, h4⟩ := q
      refine ⟨a, ws, h1, ?_, s _ _ h3, dpAll_mono hs h4⟩
      show upd c.H0 p (.lst vs) a = none
      rw [upd_ne (fun z => by subst z; rw [hp] at h3; cases h3)]
      exact h2
    | dct kvs =>
      obtain ⟨a, o, ws, h1, h2, h3, h4, h5⟩ := q
      refine ⟨a, o, ws, h1, ?_, s _ _ h3, h4, dpKv_mono hs h5⟩
      show upd c.H0 p (.lst vs) a = none
      rw [upd_ne (fun z => by subst z; rw [hp] at h3; cases h3)]
      exact h2
    | tape => exact q
  · obtain ⟨l, h1, h2⟩ := R.tp τ hτ
    exact ⟨l, s _ _ h1, dp_mono hs h2⟩
  · show upd c.H0 p (.lst vs) a ≠ none
    by_cases z : a = p
    · subst z; rw [upd_same]; exact Option.some_ne_none _
    · rw [upd_ne z]
      rcases q with q | q
      · exact R.ok.out a q
      · exact absurd q z
/-- .. and no more -/
theorem Rel.unplus {p : Addr} {vs : List V} (R : Rel (c.plus p vs) σ H e) (ho : c.Ok) (h0 : c.H0 p = none) : Rel c σ H e := by
  have hs : Same (hid (OO (c.plus p vs) σ e.sl) H) (hid (OO c σ e.sl) H) := hid_plus
  refine ⟨R.len, ho, R.tpc, fun a o h z => ?_, fun i x hx => ?_, R.inj, fun τ hτ => ?_⟩
  · refine R.ext a o ?_ z
    show upd c.H0 p (.lst vs) a = some o
    rw [upd_ne (fun q => by subst q; rw [h0] at h; cases h)]
    exact h
  · have q := R.slots i x hx
    cases x with
    | un => exact True.intro
    | d x => obtain ⟨v, h1, h2⟩ := q; exact ⟨v, h1, dp_mono hs h2⟩
    | own xs =>
      obtain ⟨a, ws, h1, h2, h3, h4⟩ := q
      refine ⟨a, ws, h1, ?_, h3, dpAll_mono hs h4⟩
      have h2' : upd c.H0 p (.lst vs) a = none := h2
      by_cases z : a = p
      · subst z; rw [upd_same] at h2'; cases h2'
      · rw [upd_ne z] at h2'; exact h2'
    | dct kvs =>
      obtain ⟨a, o, ws, h1, h2, h3, h4, h5⟩ := q
      refine ⟨a, o, ws, h1, ?_, h3, h4, dpKv_mono hs h5⟩
      have h2' : upd c.H0 p (.lst vs) a = none := h2
      by_cases z : a = p
      · subst z; rw [upd_same] at h2'; cases h2'
      · rw [upd_ne z] at h2'; exact h2'
    | tape => exact q
  · obtain ⟨l, h1, h2⟩ := R.tp τ hτ
    exact ⟨l, h1, dp_mono hs h2⟩
end
end DD

namespace DD
open PySem PySem.Spec PyProof.Rows L2

/-! ### the denotations' combinators: expressions -/
def xVar (i : Nat) : FX := fun e => match e.sl[i]? with
  | some (.d x) => some (.d x, e)
  | some (.own _) => some (.own i, e)
  | some (.dct _) => some (.own i, e)
  | some .tape => some (.tape, e)
  | _ => none
def xC (d : D) : FX := fun e => some (.d d, e)
def xBin (g : D → D → Option D) (a b : FX) : FX := fun e => match a e with
  | some (r1, e1) => (match b e1 with
    | some (r2, e2) => (match rd e2 r1 with
      | some d1 => (match rd e2 r2 with
        | some d2 => (match g d1 d2 with
          | some d => some (.d d, e2)
          | none => none)
        | none => none)
      | none => none)
    | none => none)
  | none => none
def xBinL (g : D → D → Option (List D)) (a b : FX) : FL := fun e => match a e with
  | some (r1, e1) => (match b e1 with
    | some (r2, e2) => (match rd e2 r1 with
      | some d1 => (match rd e2 r2 with
        | some d2 => (match g d1 d2 with
          | some d => some (d, e2)
          | none => none)
        | none => none)
      | none => none)
    | none => none)
  | none => none
def xUn (g : D → Option D) (a : FX) : FX := fun e => match a e with
  | some (r1, e1) => (match rd e1 r1 with
    | some d1 => (match g d1 with
      | some d => some (.d d, e1)
      | none => none)
    | none => none)
  | none => none
def xL (f : FL) : FX := fun e => match f e with
  | some (xs, e1) => some (.d (.list xs), e1)
  | none => none
def aNil : FA := fun e => some ([], e)
def aCons (a : FX) (b : FA) : FA := fun e => match a e with
  | some (r, e1) => (match b e1 with
    | some (rs, e2) => some (r :: rs, e2)
    | none => none)
  | none => none
def xTup (a : FA) : FX := fun e => match a e with
  | some (rs, e1) => (match fzs rs e1 with
    | some (ds, e2) => if ds.length ≤ 16000000 then some (.d (.tuple ds), e2) else none
    | none => none)
  | none => none
def xLst (a : FA) : FL := fun e => match a e with
  | some (rs, e1) => (match fzs rs e1 with
    | some (ds, e2) => if ds.length ≤ 16000000 then some (ds, e2) else none
    | none => none)
  | none => none
/-- a built-in's call -/
def xCall (g : List D → Option D) (a : FA) : FX := fun e => match a e with
  | some (rs, e1) => (match rds e1 rs with
    | some ds => (match g ds with
      | some d => some (.d d, e1)
      | none => none)
    | none => none)
  | none => none
def xCallL (g : List D → Option (List D)) (a : FA) : FL := fun e => match a e with
  | some (rs, e1) => (match rds e1 rs with
    | some ds => (match g ds with
      | some d => some (d, e1)
      | none => none)
    | none => none)
  | none => none
def tOf (f : FX) : FT := fun e => match f e with
  | some (.d (.bool b), e1) => some (b, e1)
  | _ => none
def tNot (f : FT) : FT := fun e => match f e with
  | some (b, e1) => some (!b, e1)
  | none => none
def tAnd (f g : FT) : FT := fun e => match f e with
  | some (true, e1) => g e1
  | some (false, e1) => some (false, e1)
  | none => none
def tOr (f g : FT) : FT := fun e => match f e with
  | some (true, e1) => some (true, e1)
  | some (false, e1) => g e1
  | none => none
def xAnd (f g : FX) : FX := fun e => match f e with
  | some (.d (.bool true), e1) => g e1
  | some (.d (.bool false), e1) => some (.d (.bool false), e1)
  | _ => none
def xOr (f g : FX) : FX := fun e => match f e with
  | some (.d (.bool true), e1) => some (.d (.bool true), e1)
  | some (.d (.bool false), e1) => g e1
  | _ => none
def xIf (t : FT) (a b : FX) : FX := fun e => match t e with
  | some (true, e1) => a e1
  | some (false, e1) => b e1
  | none => none
/-- a op b op' c -/
def xChain (g g' : D → D → Option D) (a b c : FX) : FX := fun e => match a e with
  | some (r1, e1) => (match b e1 with
    | some (r2, e2) => (match rd e2 r1 with
      | some d1 => (match rd e2 r2 with
        | some d2 => (match g d1 d2 with
          | some (.bool false) => some (.d (.bool false), e2)
          | some (.bool true) => (match c e2 with
            | some (r3, e3) => (match rd e3 r2 with
              | some d2' => (match rd e3 r3 with
                | some d3 => (match g' d2' d3 with
                  | some d => some (.d d, e3)
                  | none => none)
                | none => none)
              | none => none)
            | none => none)
          | _ => none)
        | none => none)
      | none => none)
    | none => none)
  | none => none

/-! ### rules on values: what an operation makes of data -/
def OpD (K : PySem.W.Frag) (r : R2) (g : D → D → Option D) : Prop :=
  ∀ (O : Addr → Prop) (H : Hp) (x y : V) (dx dy d : D) (Q : VK), (∀ a, O a → H a ≠ none) → Rb K O H x dx → Rb K O H y dy → g dx dy = some d → (∀ v H', Same H H' → Dq K (hid O H') v d → Q v H') → r x y H Q
def OpL (K : PySem.W.Frag) (r : R2) (g : D → D → Option (List D)) : Prop :=
  ∀ (O : Addr → Prop) (H : Hp) (x y : V) (dx dy : D) (xs : List D) (Q : VK), (∀ a, O a → H a ≠ none) → Rb K O H x dx → Rb K O H y dy → g dx dy = some xs →
    (∀ p vs H', H p = none → H' p = some (.lst vs) → Same H H' → DqAll K (hid O H) vs xs → Q (.ref p) H') → r x y H Q
def UnD (K : PySem.W.Frag) (r : V → Hp → VK → Prop) (g : D → Option D) : Prop :=
  ∀ (O : Addr → Prop) (H : Hp) (x : V) (dx d : D) (Q : VK), (∀ a, O a → H a ≠ none) → Rb K O H x dx → g dx = some d → (∀ v H', Same H H' → Dq K (hid O H') v d → Q v H') → r x H Q
def CallD (K : PySem.W.Frag) (r : List V → Hp → VK → Prop) (g : List D → Option D) : Prop :=
  ∀ (O : Addr → Prop) (H : Hp) (xs : List V) (ds : List D) (d : D) (Q : VK), (∀ a, O a → H a ≠ none) → RbAll K O H xs ds → g ds = some d → (∀ v H', Same H H' → Dq K (hid O H') v d → Q v H') → r xs H Q
def CallL (K : PySem.W.Frag) (r : List V → Hp → VK → Prop) (g : List D → Option (List D)) : Prop :=
  ∀ (O : Addr → Prop) (H : Hp) (xs : List V) (ds : List D) (ys : List D) (Q : VK), (∀ a, O a → H a ≠ none) → RbAll K O H xs ds → g ds = some ys →
    (∀ p vs H', H p = none → H' p = some (.lst vs) → Same H H' → DqAll K (hid O H) vs ys → Q (.ref p) H') → r xs H Q

section
variable {X : Cx} {a b x y : Expr} {fa fb fx fy : FX} {f g : FX} {ft gt : FT} {pos : Pos} {c : Ct} {σ : Sg} {H H' : Hp} {e e' : ES} {Q : VK}
/-- an expression that makes a new list, as a value -/
theorem dl_fin {R0 : Rel c σ H e} {p : Addr} {vs : List V} {xs : List D} (h0 : c.H0 p = none) (hp : H' p = some (.lst vs)) (R : Rel (c.plus p vs) σ H' e') (sh : ∀ a, OO c σ e'.sl a → OO c σ e.sl a) (fr : Fr (OO c σ e.sl) H H')
    (ds : DqAll c.K (hid (OO (c.plus p vs) σ e'.sl) H') vs xs) : Stp c σ e H e' H' ∧ RvR c σ H' e'.sl (.ref p) (.d (.list xs)) := by
  have R1 := R.unplus R0.ok h0
  refine ⟨⟨R1, sh, fr⟩, .lst ((hid_of (fun z => ?_) hp)) (dpAll_mono hid_plus ds)⟩
  rcases z with z | ⟨i, ys, h1, h2⟩
  · exact R0.ok.out p z h0
  · obtain ⟨a, ws, g1, g2, g3⟩ := (R.slots i _ h1).mine
    rw [h2] at g1; cases g1
    have g2' : upd c.H0 p (.lst vs) p = none := g2
    rw [upd_same] at g2'; cases g2'
theorem de_of_dl {f : FL} (h : DL X x f) : DE X x (xL f) := by
  refine ⟨fun c hc => pe_imp (h.pl c hc) fun σ H Q q => ?_⟩
  obtain ⟨e, R, r, e', he, q⟩ := q
  unfold xL at he
  cases h1 : f e with
  | none => rw [h1] at he; cases he
  | some p =>
    obtain ⟨xs, e1⟩ := p
    rw [h1] at he
    cases he
    refine ⟨e, R, xs, _, h1, fun p vs H' h0 hp R' sh fr ds => ?_⟩
    obtain ⟨S, hr⟩ := dl_fin (R0 := R) h0 hp R' sh fr ds
    exact q _ H' S hr

theorem de_var (i : Nat) {x : Str} {pos : Pos} (hN : X.N[i]? = some x := by rfl) (hv : Vis X.env.scope x := by first | exact Or.inl rfl | exact Or.inr (Or.inl rfl) | exact Or.inr (Or.inr rfl)) (hd : (x == ("__debug__" : Str)) = false := by decide)
    (hcd : (x == ("__classdict__" : Str)) = false := by decide) : DE X (.Name x pos) (xVar i) := by
  refine ⟨fun c hc => pe_imp (pe_var hN hv hd hcd) fun σ H Q q => ?_⟩
  obtain ⟨e, R, r, e', he, q⟩ := q
  unfold xVar at he
  cases hs : e.sl[i]? with
  | none => rw [hs] at he; cases he
  | some s =>
    rw [hs] at he
    have z := R.slots i s hs
    cases s with
    | un => cases he
    | d x => cases he; obtain ⟨v, h1, h2⟩ := z; exact ⟨v, h1, q v H (Stp.refl R) h2⟩
    | own xs => cases he; obtain ⟨a, vs, h1, _⟩ := z; exact ⟨_, h1, q _ H (Stp.refl R) h1⟩
    | dct kvs => cases he; obtain ⟨a, o, xs, h1, _⟩ := z; exact ⟨_, h1, q _ H (Stp.refl R) h1⟩
    | tape => cases he; exact ⟨_, z, q _ H (Stp.refl R) rfl⟩
theorem de_c {v : V} {d : D} (h : PE X x (tC v)) (hd : ∀ K H, Dq K H v d) : DE X x (xC d) := by
  refine ⟨fun c hc => pe_imp h fun σ H Q q => ?_⟩
  obtain ⟨e, R, r, e', he, q⟩ := q
  cases he
  exact q v H (Stp.refl R) (hd _ _)
theorem de_int {i j pos} : DE X (.Constant (.int i) j pos) (xC (.int i)) := de_c pe_int fun _ _ => .int i
theorem de_bl {b j pos} : DE X (.Constant (.bool b) j pos) (xC (.bool b)) := de_c pe_bl fun _ _ => .bl b
theorem de_non {j pos} : DE X (.Constant .none j pos) (xC .none) := de_c pe_non fun _ _ => .non
theorem de_str {x : String} {j pos} : DE X (.Constant (.str x) j pos) (xC (.str (Str.ofString x))) := de_c pe_str fun _ _ => .str _

theorem fin_op {e : ES} {d : D} (R : Rel c σ H e) (q : ∀ v H', Stp c σ e H e H' → RvR c σ H' e.sl v (.d d) → Q v H') : ∀ v H', Same H H' → Dq c.K (hid (OO c σ e.sl) H') v d → Q v H' :=
  fun v H' s hd => q v H' (Stp.grow R s) hd
theorem stp_then {e1 e2 : ES} {H1 H2 : Hp} {r : Rv} (S : Stp c σ e H e1 H1) (q : ∀ v H', Stp c σ e H e2 H' → RvR c σ H' e2.sl v r → Q v H') : ∀ v H', Stp c σ e1 H1 e2 H' → RvR c σ H' e2.sl v r → Q v H' :=
  fun v H' T hr => q v H' (S.trans T) hr

theorem bin_imp {r : R2} {g : D → D → Option D} {K : PySem.W.Frag} (hg : OpD K r g) (hc : c.K = K) (h : tD c (xBin g fa fb) σ H Q) : tOp r (tD c fa) (tD c fb) σ H Q := by
  obtain ⟨e, R, r, e', he, q⟩ := h
  unfold xBin at he
  cases h1 : fa e with
  | none => rw [h1] at he; cases he
  | some p1 =>
  obtain ⟨r1, e1⟩ := p1
  rw [h1] at he; dsimp only at he
  cases h2 : fb e1 with
  | none => rw [h2] at he; cases he
  | some p2 =>
  obtain ⟨r2, e2⟩ := p2
  rw [h2] at he; dsimp only at he
  cases h3 : rd e2 r1 with
  | none => rw [h3] at he; cases he
  | some d1 =>
  rw [h3] at he; dsimp only at he
  cases h4 : rd e2 r2 with
  | none => rw [h4] at he; cases he
  | some d2 =>
  rw [h4] at he; dsimp only at he
  cases h5 : g d1 d2 with
  | none => rw [h5] at he; cases he
  | some d =>
  rw [h5] at he
  cases he
  refine ⟨e, R, r1, e1, h1, fun v1 H1 S1 hr1 => ⟨e1, S1.rel, r2, _, h2, fun v2 H2 S2 hr2 => ?_⟩⟩
  have S := S1.trans S2
  refine hg (OO c σ e'.sl) H2 v1 v2 d1 d2 d Q S.rel.hidden (hc ▸ (RvR.step S2 hr1).rb S.rel h3) (hc ▸ hr2.rb S.rel h4) h5 ?_
  intro v H' sm hd
  exact q v H' (S.trans (Stp.grow S.rel sm)) (show Dq c.K _ v d by rw [hc]; exact hd)
theorem de_bin {op : Operator} {r : R2} {g : D → D → Option D} (ho : OpR X (binaryOp op) r) (hg : OpD X.K r g) (ha : DE X a fa) (hb : DE X b fb) : DE X (.BinOp a op b pos) (xBin g fa fb) :=
  ⟨fun c hc => pe_imp (pe_op ho (ha.pe c hc) (hb.pe c hc)) fun _ _ _ q => bin_imp hg hc q⟩
theorem de_cmp {op : CmpOp} {r : R2} {g : D → D → Option D} (ho : OpR X (compareOp op) r) (hg : OpD X.K r g) (ha : DE X a fa) (hb : DE X b fb) (hm : behindInMarks op b = false) : DE X (.Compare a [op] [b] pos) (xBin g fa fb) :=
  ⟨fun c hc => pe_imp (pe_cmpR ho (ha.pe c hc) (hb.pe c hc) hm) fun _ _ _ q => bin_imp hg hc q⟩
theorem tof_inv {e : ES} {b : Bool} (h : tOf f e = some (b, e')) : f e = some (.d (.bool b), e') := by
  unfold tOf at h
  split at h
  · rename_i h1; cases h; exact h1
  · cases h
theorem tof_imp {Qt : Bool → Hp → Prop} (h : tT c (tOf f) σ H (fun k H' => Qt k H')) : tD c f σ H fun v H' => ∃ k, v = .bl k ∧ Qt k H' := by
  obtain ⟨e, R, b, e', he, q⟩ := h
  refine ⟨e, R, _, e', tof_inv he, fun v H' S hr => ⟨b, ?_, q H' S⟩⟩
  have hr' : Dq c.K (hid (OO c σ e'.sl) H') v (.bool b) := hr
  cases hr'; rfl
theorem dt_cmp {op : CmpOp} {r : R2} {g : D → D → Option D} (ho : OpR X (compareOp op) r) (hg : OpD X.K r g) (ha : DE X a fa) (hb : DE X b fb) (hm : behindInMarks op b = false) : DT X (.Compare a [op] [b] pos) (tOf (xBin g fa fb)) :=
  ⟨fun c hc => pt_imp (pt_cmpR ho (ha.pe c hc) (hb.pe c hc) hm) fun _ _ _ q => bin_imp hg hc (tof_imp q)⟩
theorem dt_val (h : DE X x f) (he : ∀ whole, isTrue x X.env whole = (do let v ← whole; standAt x.pos; holding [v] (truthy v)) := by intro _; rfl) : DT X x (tOf f) :=
  ⟨fun c hc => pt_imp (pt_val (h.pe c hc) he) fun _ _ _ q => tof_imp q⟩
theorem dt_not (h : DT X a ft) : DT X (.UnaryOp .Not a pos) (tNot ft) := by
  refine ⟨fun c hc => pt_imp (pt_not (h.pt c hc)) fun σ H Q q => ?_⟩
  obtain ⟨e, R, b, e', he, q⟩ := q
  unfold tNot at he
  cases h1 : ft e with
  | none => rw [h1] at he; cases he
  | some p =>
    obtain ⟨b1, e1⟩ := p
    rw [h1] at he; cases he
    exact ⟨e, R, b1, _, h1, fun H' S => q H' S⟩
variable {rest : List Expr}
theorem dw_and1 (h : DT X a ft) : DW X (.BoolOp .And [a] pos) ft := ⟨fun c hc => pw_and1 (h.pt c hc)⟩
theorem dw_or1 (h : DT X a ft) : DW X (.BoolOp .Or [a] pos) ft := ⟨fun c hc => pw_or1 (h.pt c hc)⟩
theorem dw_and (h : DT X a ft) (h2 : DW X (.BoolOp .And (b :: rest) pos) gt) : DW X (.BoolOp .And (a :: b :: rest) pos) (tAnd ft gt) := by
  refine ⟨fun c hc => pw_imp (pw_and (h.pt c hc) (h2.pw c hc)) fun σ H Q q => ?_⟩
  obtain ⟨e, R, b, e', he, q⟩ := q
  unfold tAnd at he
  cases h1 : ft e with
  | none => rw [h1] at he; cases he
  | some p =>
    obtain ⟨b1, e1⟩ := p
    rw [h1] at he
    cases b1 with
    | true => exact ⟨e, R, true, e1, h1, fun H1 S => iteT ⟨e1, S.rel, b, e', he, fun H' T => q H' (S.trans T)⟩⟩
    | false => cases he; exact ⟨e, R, false, _, h1, fun H1 S => iteF (q H1 S)⟩
theorem dw_or (h : DT X a ft) (h2 : DW X (.BoolOp .Or (b :: rest) pos) gt) : DW X (.BoolOp .Or (a :: b :: rest) pos) (tOr ft gt) := by
  refine ⟨fun c hc => pw_imp (pw_or (h.pt c hc) (h2.pw c hc)) fun σ H Q q => ?_⟩
  obtain ⟨e, R, b, e', he, q⟩ := q
  unfold tOr at he
  cases h1 : ft e with
  | none => rw [h1] at he; cases he
  | some p =>
    obtain ⟨b1, e1⟩ := p
    rw [h1] at he
    cases b1 with
    | false => exact ⟨e, R, false, e1, h1, fun H1 S => iteF ⟨e1, S.rel, b, e', he, fun H' T => q H' (S.trans T)⟩⟩
    | true => cases he; exact ⟨e, R, true, _, h1, fun H1 S => iteT (q H1 S)⟩
theorem dt_w (h : DW X x ft) : DT X x ft := ⟨fun c hc => (h.pw c hc).pt⟩
/-- as values -/
theorem de_one {op} (h : DE X a f) : DE X (.BoolOp op [a] pos) f := ⟨fun c hc => pe_one (h.pe c hc)⟩
theorem de_and (h : DE X a f) (h2 : DE X (.BoolOp .And (b :: rest) pos) g) : DE X (.BoolOp .And (a :: b :: rest) pos) (xAnd f g) := by
  refine ⟨fun c hc => pe_imp (pe_and (h.pe c hc) (h2.pe c hc)) fun σ H Q q => ?_⟩
  obtain ⟨e, R, r, e', he, q⟩ := q
  unfold xAnd at he
  split at he
  · rename_i e1 h1
    refine ⟨e, R, _, e1, h1, fun v H1 S hr => ⟨true, ?_, iteT ⟨e1, S.rel, r, e', he, fun v H' T => q v H' (S.trans T)⟩⟩⟩
    cases (show Dq c.K _ v (.bool true) from hr); rfl
  · rename_i e1 h1
    cases he
    refine ⟨e, R, _, _, h1, fun v H1 S hr => ⟨false, ?_, iteF (q _ H1 S (.bl false))⟩⟩
    cases (show Dq c.K _ v (.bool false) from hr); rfl
  · cases he
theorem de_or (h : DE X a f) (h2 : DE X (.BoolOp .Or (b :: rest) pos) g) : DE X (.BoolOp .Or (a :: b :: rest) pos) (xOr f g) := by
  refine ⟨fun c hc => pe_imp (pe_or (h.pe c hc) (h2.pe c hc)) fun σ H Q q => ?_⟩
  obtain ⟨e, R, r, e', he, q⟩ := q
  unfold xOr at he
  split at he
  · rename_i e1 h1
    cases he
    refine ⟨e, R, _, _, h1, fun v H1 S hr => ⟨true, ?_, iteT (q _ H1 S (.bl true))⟩⟩
    cases (show Dq c.K _ v (.bool true) from hr); rfl
  · rename_i e1 h1
    refine ⟨e, R, _, e1, h1, fun v H1 S hr => ⟨false, ?_, iteF ⟨e1, S.rel, r, e', he, fun v H' T => q v H' (S.trans T)⟩⟩⟩
    cases (show Dq c.K _ v (.bool false) from hr); rfl
  · cases he
/-- not x, as a value -/
def gNot : D → Option D
  | .bool b => some (.bool (!b))
  | _ => none
theorem de_not (h : DE X a f) : DE X (.UnaryOp .Not a pos) (xUn gNot f) := by
  refine ⟨fun c hc => pe_imp (pe_not (h.pe c hc)) fun σ H Q q => ?_⟩
  obtain ⟨e, R, r, e', he, q⟩ := q
  unfold xUn at he
  cases h1 : f e with
  | none => rw [h1] at he; cases he
  | some p1 =>
  obtain ⟨r1, e1⟩ := p1
  rw [h1] at he; dsimp only at he
  cases h2 : rd e1 r1 with
  | none => rw [h2] at he; cases he
  | some d1 =>
  rw [h2] at he; dsimp only at he
  cases d1 with
  | bool k =>
    cases he
    refine ⟨e, R, r1, _, h1, fun v H1 S hr => ⟨k, (hr.rb S.rel h2).bool, q _ H1 S (.bl (!k))⟩⟩
  | _ => cases he
theorem de_if {t : Expr} (h : DT X t ft) (ha : DE X a fa) (hb : DE X b fb) : DE X (.IfExp t a b pos) (xIf ft fa fb) := by
  refine ⟨fun c hc => pe_imp (pe_ifExp (h.pt c hc) (ha.pe c hc) (hb.pe c hc)) fun σ H Q q => ?_⟩
  obtain ⟨e, R, r, e', he, q⟩ := q
  unfold xIf at he
  cases h1 : ft e with
  | none => rw [h1] at he; cases he
  | some p =>
    obtain ⟨b1, e1⟩ := p
    rw [h1] at he
    cases b1 with
    | true => exact ⟨e, R, true, e1, h1, fun H1 S => iteT ⟨e1, S.rel, r, e', he, fun v H' T => q v H' (S.trans T)⟩⟩
    | false => exact ⟨e, R, false, e1, h1, fun H1 S => iteF ⟨e1, S.rel, r, e', he, fun v H' T => q v H' (S.trans T)⟩⟩

/-! ### argument lists, displays -/
theorem da_nil : DA X [] aNil := by
  refine ⟨fun c hc => pa_imp pa_nil fun σ H Q q => ?_⟩
  obtain ⟨e, R, rs, e', he, q⟩ := q
  cases he
  exact q [] H (Stp.refl R) True.intro
theorem da_cons {es : List Expr} {fs : FA} (ha : DE X a fa) (hr : DA X es fs) (hs : starEach (a :: es) X.env = (false, eval a X.env) :: starEach es X.env := by rfl) : DA X (a :: es) (aCons fa fs) := by
  refine ⟨fun c hc => pa_imp (pa_cons (ha.pe c hc) (hr.pa c hc) hs) fun σ H Q q => ?_⟩
  obtain ⟨e, R, rs, e', he, q⟩ := q
  unfold aCons at he
  cases h1 : fa e with
  | none => rw [h1] at he; cases he
  | some p1 =>
  obtain ⟨r1, e1⟩ := p1
  rw [h1] at he; dsimp only at he
  cases h2 : fs e1 with
  | none => rw [h2] at he; cases he
  | some p2 =>
  obtain ⟨rs2, e2⟩ := p2
  rw [h2] at he; cases he
  exact ⟨e, R, r1, e1, h1, fun v H1 S hr => ⟨e1, S.rel, rs2, _, h2, fun vs H2 T hrs => q (v :: vs) H2 (S.trans T) ⟨RvR.step T hr, hrs⟩⟩⟩
theorem big16 {n : Nat} (h : n ≤ 16000000) : n ≤ sizeLine := by rw [sizeLine_eq]; omega
theorem de_tup {es : List Expr} {fs : FA} {k} (h : DA X es fs) : DE X (.Tuple es k pos) (xTup fs) := by
  refine ⟨fun c hc => pe_imp (pe_tup (h.pa c hc)) fun σ H Q q => ?_⟩
  obtain ⟨e, R, r, e', he, q⟩ := q
  unfold xTup at he
  cases h1 : fs e with
  | none => rw [h1] at he; cases he
  | some p1 =>
  obtain ⟨rs, e1⟩ := p1
  rw [h1] at he; dsimp only at he
  cases h2 : fzs rs e1 with
  | none => rw [h2] at he; cases he
  | some p2 =>
  obtain ⟨ds, e2⟩ := p2
  rw [h2] at he; dsimp only at he
  split at he
  · rename_i hl
    cases he
    refine ⟨e, R, rs, e1, h1, fun vs H1 S hrs => ?_⟩
    obtain ⟨S2, hds⟩ := fzs_ok S.rel hrs h2
    have S3 := S.trans S2
    refine ⟨by rw [dpAll_len hds]; exact big16 hl, fun p hp => ?_⟩
    have sm : Same H1 (upd H1 p (.tup vs)) := fun a o z => by rw [upd_ne (ne_of_none z hp)]; exact z
    have S4 := S3.trans (Stp.grow S3.rel sm)
    exact q _ _ S4 (.tup (.of (hid_of (fun z => S3.rel.hidden p z hp) upd_same)) (dpAll_mono (hid_same0 sm) hds))
  · cases he
theorem dl_lst {es : List Expr} {fs : FA} (h : DA X es fs) : DL X (.List es pos) (xLst fs) := by
  refine ⟨fun c hc => pe_imp (pe_lst (h.pa c hc)) fun σ H Q q => ?_⟩
  obtain ⟨e, R, xs, e', he, q⟩ := q
  unfold xLst at he
  cases h1 : fs e with
  | none => rw [h1] at he; cases he
  | some p1 =>
  obtain ⟨rs, e1⟩ := p1
  rw [h1] at he; dsimp only at he
  cases h2 : fzs rs e1 with
  | none => rw [h2] at he; cases he
  | some p2 =>
  obtain ⟨ds, e2⟩ := p2
  rw [h2] at he; dsimp only at he
  split at he
  · rename_i hl
    cases he
    refine ⟨e, R, rs, e1, h1, fun vs H1 S hrs => ?_⟩
    obtain ⟨S2, hds⟩ := fzs_ok S.rel hrs h2
    have S3 := S.trans S2
    refine ⟨by rw [dpAll_len hds]; exact big16 hl, fun p hp => ?_⟩
    have sm : Same H1 (upd H1 p (.lst vs)) := fun a o z => by rw [upd_ne (ne_of_none z hp)]; exact z
    have Rp := S3.rel.plus (vs := vs) hp upd_same sm
    refine q p vs _ (S3.rel.fresh hp) upd_same Rp S3.shr (fun a o n z => sm a o (S3.fr a o n z)) (dpAll_mono (hid_same (fun a z => ?_) (fr_same sm)) hds)
    rcases (OO.plus a).mp z with z | z
    · exact .inl z
    · subst z; exact .inr hp
  · cases he
end
end DD

namespace DD
open PySem PySem.Spec PyProof.Rows L2

inductive Out where
  | nx | rt (r : Rv) | rtL (xs : List D) | bk | ct
abbrev FS := ES → Option (Out × ES)
abbrev FG := D → ES → Option ES
def SPost (c : Ct) (Z : Ends) (e' : ES) : Out → Prop
  | .nx => ∀ σ' H', Rel c σ' H' e' → Z.nx σ' H'
  | .bk => ∀ σ' H', Rel c σ' H' e' → Z.bk σ' H'
  | .ct => ∀ σ' H', Rel c σ' H' e' → Z.ct σ' H'
  | .rt r => ∀ σ' v H', Rel c σ' H' e' → RvR c σ' H' e'.sl v r → Z.rt v H'
  | .rtL xs => ∀ σ' p vs H', c.H0 p = none → H' p = some (.lst vs) → Rel (c.plus p vs) σ' H' e' → DqAll c.K (hid (OO (c.plus p vs) σ' e'.sl) H') vs xs → Z.rt (.ref p) H'
def tS (c : Ct) (g : FS) : TS := fun Z σ H => ∃ e, Rel c σ H e ∧ ∃ o e', g e = some (o, e') ∧ SPost c Z e' o
structure DS (X : Cx) (st : Stmt) (g : FS) : Prop where
  ps : ∀ c : Ct, c.K = X.K → PS X st (tS c g)
structure DB (X : Cx) (st : List Stmt) (g : FS) : Prop where
  pb : ∀ c : Ct, c.K = X.K → PSs X st (tS c g)
/-- what a store keeps: the names but those at is -/
structure Kp (c : Ct) (is : List Nat) (σ σ' : Sg) (e e' : ES) : Prop where
  sh : ∀ a, OO c σ' e'.sl a → OO c σ e.sl a
  at_ : ∀ j, j ∉ is → σ'[j]? = σ[j]?
  len : σ'.length = σ.length
def tG (c : Ct) (is : List Nat) (g : FG) : TG := fun v σ H Q => ∃ e d, Rel c σ H e ∧ Dq c.K (hid (OO c σ e.sl) H) v d ∧ ∃ e', g d e = some e' ∧ ∀ σ', Rel c σ' H e' → Kp c is σ σ' e e' → Q σ' H
structure DG (X : Cx) (tg : Expr) (is : List Nat) (g : FG) : Prop where
  pg : ∀ c : Ct, c.K = X.K → PG X tg (tG c is g)
/-- what is walked: the items, as they stand -/
def Wk (K : PySem.W.Frag) (O : Addr → Prop) (J : It) (ds : List D) (H : Hp) : Prop :=
  ∀ (O' : Addr → Prop) (H' : Hp), Same (hid O H) (hid O' H') → (∀ a, O' a → H' a ≠ none) → J.stop ds.length H' ∧ ∀ (i : Nat) (d : D), ds[i]? = some d → J.go i H' ∧ ∀ x H'', J.yld i H' x H'' → Same H' H'' ∧ Dq K (hid O' H'') x d
def tI (c : Ct) (f : FL) : TI := fun σ H R => ∃ e, Rel c σ H e ∧ ∃ ds e', f e = some (ds, e') ∧ ∀ J H', Stp c σ e H e' H' → Wk c.K (OO c σ e'.sl) J ds H' → R J H'
structure DI (X : Cx) (tg iter : Expr) (f : FL) : Prop where
  pi : ∀ c : Ct, c.K = X.K → PI X tg iter (tI c f)
theorem pg_imp {X : Cx} {x : Expr} {t t' : TG} (h : PG X x t) (i : ∀ v σ H Q, t' v σ H Q → t v σ H Q) : PG X x t' := ⟨fun pins s σ H v u Q I r q => h.run pins s σ H v u Q I r (i v σ H Q q)⟩
theorem pi_imp {X : Cx} {tg x : Expr} {t t' : TI} (h : PI X tg x t) (i : ∀ σ H Q, t' σ H Q → t σ H Q) : PI X tg x t' := ⟨fun pins s σ H Q I q => h.run pins s σ H Q I (i σ H Q q)⟩

/-! ### combinators -/
def gNx : FS := fun e => some (.nx, e)
def gBk : FS := fun e => some (.bk, e)
def gCt : FS := fun e => some (.ct, e)
def gSeq (f g : FS) : FS := fun e => match f e with
  | some (.nx, e1) => g e1
  | r => r
def gRet (f : FX) : FS := fun e => match f e with
  | some (r, e1) => some (.rt r, e1)
  | none => none
def gRetL (f : FL) : FS := fun e => match f e with
  | some (r, e1) => some (.rtL r, e1)
  | none => none
def gIf (t : FT) (a b : FS) : FS := fun e => match t e with
  | some (true, e1) => a e1
  | some (false, e1) => b e1
  | none => none
def gSet (i : Nat) (f : FX) : FS := fun e => match f e with
  | some (r, e1) => (match fz r e1 with
    | some (d, e2) => some (.nx, e2.set i (.d d))
    | none => none)
  | none => none
def gOwn (i : Nat) (f : FL) : FS := fun e => match f e with
  | some (xs, e1) => some (.nx, e1.set i (.own xs))
  | none => none
def gAsg (f : FX) (g : FG) : FS := fun e => match f e with
  | some (r, e1) => (match fz r e1 with
    | some (d, e2) => (match g d e2 with
      | some e3 => some (.nx, e3)
      | none => none)
    | none => none)
  | none => none
def gDrop (f : FX) : FS := fun e => match f e with
  | some (_, e1) => some (.nx, e1)
  | none => none
def loopF (gt : FG) (body : FS) : List D → ES → Option (Out × ES)
  | [], e => some (.nx, e)
  | d :: ds, e => match gt d e with
    | some e1 => (match body e1 with
      | some (.nx, e2) => loopF gt body ds e2
      | some (.ct, e2) => loopF gt body ds e2
      | some (.bk, e2) => some (.nx, e2)
      | some (.rt r, e2) => some (.rt r, e2)
      | some (.rtL r, e2) => some (.rtL r, e2)
      | none => none)
    | none => none
def gFor (fi : FL) (gt : FG) (body : FS) : FS := fun e => match fi e with
  | some (ds, e1) => loopF gt body ds e1
  | none => none
def loopW (t : FT) (body : FS) : Nat → ES → Option (Out × ES)
  | 0, _ => none
  | n + 1, e => match t e with
    | some (true, e1) => (match body e1 with
      | some (.nx, e2) => loopW t body n e2
      | some (.ct, e2) => loopW t body n e2
      | some (.bk, e2) => some (.nx, e2)
      | some (.rt r, e2) => some (.rt r, e2)
      | some (.rtL r, e2) => some (.rtL r, e2)
      | none => none)
    | some (false, e1) => some (.nx, e1)
    | none => none
open Classical in
noncomputable def gWhile (t : FT) (body : FS) : FS := fun e => if h : ∃ r, ∃ n, loopW t body n e = some r then some (Classical.choose h) else none
theorem loopW_mono {t : FT} {body : FS} : ∀ {n m : Nat} {e : ES} {r : Out × ES}, n ≤ m → loopW t body n e = some r → loopW t body m e = some r
  | 0, _, _, _, _, h => by cases h
  | n + 1, 0, _, _, l, _ => by omega
  | n + 1, m + 1, e, r, l, h => by
    unfold loopW at h ⊢
    cases h1 : t e with
    | none => rw [h1] at h; cases h
    | some p =>
      obtain ⟨b, e1⟩ := p
      rw [h1] at h
      cases b with
      | false => exact h
      | true =>
        dsimp only at h ⊢
        cases h2 : body e1 with
        | none => rw [h2] at h; cases h
        | some p =>
          obtain ⟨o, e2⟩ := p
          rw [h2] at h
          cases o with
          | nx => exact loopW_mono (by omega) h
          | ct => exact loopW_mono (by omega) h
          | _ => exact h
theorem gWhile_of {t : FT} {body : FS} {n : Nat} {e : ES} {r : Out × ES} (h : loopW t body n e = some r) : gWhile t body e = some r := by
  have ex : ∃ r, ∃ n, loopW t body n e = some r := ⟨r, n, h⟩
  unfold gWhile
  rw [dif_pos ex]
  obtain ⟨m, hm⟩ := Classical.choose_spec ex
  have a1 := loopW_mono (Nat.le_max_left n m) h
  have a2 := loopW_mono (Nat.le_max_right n m) hm
  rw [a1] at a2
  exact a2.symm
theorem gWhile_inv {t : FT} {body : FS} {e : ES} {r : Out × ES} (h : gWhile t body e = some r) : ∃ n, loopW t body n e = some r := by
  unfold gWhile at h
  split at h
  · rename_i ex
    obtain ⟨m, hm⟩ := Classical.choose_spec ex
    cases h
    exact ⟨m, hm⟩
  · cases h

section
variable {c : Ct} {σ σ' : Sg} {H H1 H2 H' Hs : Hp} {e e1 e2 e' : ES} {v : V} {r : Rv}
/-! ### storing -/
theorem get_set2 {α : Type} {l : List α} {i j : Nat} {s x : α} (h : (l.set i s)[j]? = some x) : (j = i ∧ x = s ∧ i < l.length) ∨ (j ≠ i ∧ l[j]? = some x) := by
  by_cases q : i = j
  · subst q
    by_cases hi : i < l.length
    · rw [List.getElem?_set_self hi] at h; cases h; exact .inl ⟨rfl, rfl, hi⟩
    · rw [List.getElem?_eq_none_iff.mpr (by simp; omega)] at h; cases h
  · rw [List.getElem?_set_ne q] at h
    exact .inr ⟨fun z => q z.symm, h⟩
theorem Rel.set (R : Rel c σ H e) {i : Nat} {x : D} (h : Dq c.K (hid (OO c σ e.sl) H) v x) : Rel c (σ.set i (some v)) H (e.set i (.d x)) := by
  have sub : ∀ a, OO c (σ.set i (some v)) (e.sl.set i (.d x)) a → OO c σ e.sl a := fun a q => by
    rcases q with q | ⟨j, xs, h1, h2⟩
    · exact .inl q
    · obtain ⟨n, h1⟩ := own_set h1
      rw [List.getElem?_set_ne (Ne.symm n)] at h2
      exact .inr ⟨j, xs, h1, h2⟩
  have hs : Same (hid (OO c σ e.sl) H) (hid (OO c (σ.set i (some v)) (e.sl.set i (.d x))) H) := hid_same (fun a q => .inl (sub a q)) fun _ _ _ h => h
  refine ⟨?_, R.ok, R.tpc, R.ext, fun j s hj => ?_, fun j k ys zs a h1 h2 h3 h4 => ?_, fun τ hτ => ?_⟩
  · rw [ES.set_sl, List.length_set, List.length_set]; exact R.len
  · rw [ES.set_sl] at hj ⊢
    rcases get_set2 hj with ⟨rfl, rfl, hl⟩ | ⟨n, hj⟩
    · exact ⟨v, by rw [List.getElem?_set_self (by rw [R.len]; exact hl)], dp_mono hs h⟩
    · have z := R.slots j s hj
      have eσ : (σ.set i (some v))[j]? = σ[j]? := by rw [List.getElem?_set_ne (Ne.symm n)]
      cases s with
      | un => exact True.intro
      | d x => obtain ⟨v, h1, h2⟩ := z; exact ⟨v, eσ.trans h1, dp_mono hs h2⟩
      | own ys => obtain ⟨a, vs, h1, h2, h3, h4⟩ := z; exact ⟨a, vs, eσ.trans h1, h2, h3, dpAll_mono hs h4⟩
      | dct ys => obtain ⟨a, o, vs, h1, h2, h3, h4, h5⟩ := z; exact ⟨a, o, vs, eσ.trans h1, h2, h3, h4, dpKv_mono hs h5⟩
      | tape => exact eσ.trans z
  · rw [ES.set_sl] at h1 h2
    obtain ⟨n1, h1⟩ := own_set h1
    obtain ⟨n2, h2⟩ := own_set h2
    rw [List.getElem?_set_ne (Ne.symm n1)] at h3
    rw [List.getElem?_set_ne (Ne.symm n2)] at h4
    exact R.inj j k ys zs a h1 h2 h3 h4
  · obtain ⟨l, h1, h2⟩ := R.tp τ hτ
    exact ⟨l, h1, dp_mono hs h2⟩
theorem Rel.setOwn {p : Addr} {vs : List V} (R : Rel (c.plus p vs) σ H e) (ok : c.Ok) (h0 : c.H0 p = none) (hp : H p = some (.lst vs)) {i : Nat} {xs : List D} (hd : DqAll c.K (hid (OO (c.plus p vs) σ e.sl) H) vs xs) :
    Rel c (σ.set i (some (.ref p))) H (e.set i (.own xs)) := by
  have R0 := R.unplus ok h0
  have npl : ∀ (j : Nat) (ys : Bx), e.sl[j]? = some ys.sl → σ[j]? ≠ some (some (.ref p)) := fun j ys h1 h2 => by
    obtain ⟨a, ws, g1, g2, g3⟩ := (R.slots j _ h1).mine
    rw [h2] at g1; cases g1
    have g2' : upd c.H0 p (.lst vs) p = none := g2
    rw [upd_same] at g2'; cases g2'
  have sub : ∀ a, OO c (σ.set i (some (.ref p))) (e.sl.set i (.own xs)) a → OO (c.plus p vs) σ e.sl a := fun a q => by
    rcases q with q | ⟨j, ys, h1, h2⟩
    · exact .inl (.inl q)
    · rcases get_set2 h1 with ⟨rfl, _, hl⟩ | ⟨n, h1⟩
      · rw [List.getElem?_set_self (by rw [R.len]; exact hl)] at h2; cases h2
        exact .inl (.inr rfl)
      · rw [List.getElem?_set_ne (Ne.symm n)] at h2
        exact .inr ⟨j, ys, h1, h2⟩
  have hs : Same (hid (OO (c.plus p vs) σ e.sl) H) (hid (OO c (σ.set i (some (.ref p))) (e.sl.set i (.own xs))) H) := hid_same (fun a q => .inl (sub a q)) fun _ _ _ h => h
  refine ⟨?_, ok, R.tpc, R0.ext, fun j s hj => ?_, fun j k ys zs a h1 h2 h3 h4 => ?_, fun τ hτ => ?_⟩
  · rw [ES.set_sl, List.length_set, List.length_set]; exact R.len
  · rw [ES.set_sl] at hj ⊢
    rcases get_set2 hj with ⟨rfl, rfl, hl⟩ | ⟨n, hj⟩
    · exact ⟨p, vs, by rw [List.getElem?_set_self (by rw [R.len]; exact hl)], h0, hp, dpAll_mono hs hd⟩
    · have z := R.slots j s hj
      have z0 := R0.slots j s hj
      have eσ : (σ.set i (some (.ref p)))[j]? = σ[j]? := by rw [List.getElem?_set_ne (Ne.symm n)]
      cases s with
      | un => exact True.intro
      | d x => obtain ⟨v, h1, h2⟩ := z; exact ⟨v, eσ.trans h1, dp_mono hs h2⟩
      | own ys =>
        obtain ⟨a, ws, h1, _, h3, h4⟩ := z
        obtain ⟨a', ws', g1, g2, _, _⟩ := z0
        rw [h1] at g1; cases g1
        exact ⟨a, ws, eσ.trans h1, g2, h3, dpAll_mono hs h4⟩
      | dct ys =>
        obtain ⟨a, o, ws, h1, _, h3, h4, h5⟩ := z
        obtain ⟨a', o', ws', g1, g2, _⟩ := z0
        rw [h1] at g1; cases g1
        exact ⟨a, o, ws, eσ.trans h1, g2, h3, h4, dpKv_mono hs h5⟩
      | tape => exact eσ.trans z
  · rw [ES.set_sl] at h1 h2
    rcases get_set2 h1 with ⟨ej, _, hl⟩ | ⟨n1, h1'⟩ <;> rcases get_set2 h2 with ⟨ek, _, hl2⟩ | ⟨n2, h2'⟩
    · exact ej.trans ek.symm
    · rw [ej, List.getElem?_set_self (by rw [R.len]; exact hl)] at h3; cases h3
      rw [List.getElem?_set_ne (Ne.symm n2)] at h4
      exact absurd h4 (npl k zs h2')
    · rw [ek, List.getElem?_set_self (by rw [R.len]; exact hl2)] at h4; cases h4
      rw [List.getElem?_set_ne (Ne.symm n1)] at h3
      exact absurd h3 (npl j ys h1')
    · rw [List.getElem?_set_ne (Ne.symm n1)] at h3
      rw [List.getElem?_set_ne (Ne.symm n2)] at h4
      exact R.inj j k ys zs a h1' h2' h3 h4
  · obtain ⟨l, h1, h2⟩ := R.tp τ hτ
    exact ⟨l, h1, dp_mono hs h2⟩

/-! ### pinning what stands -/
open Classical in
noncomputable def Ct.pin (c : Ct) (σ : Sg) (e : ES) (H : Hp) : Ct := ⟨c.K, c.O, c.t, c.tp, fun a => if OO c σ e.sl a ∧ ¬ c.O a then none else H a⟩
theorem pin_some {a : Addr} {o : HO} (h : (c.pin σ e H).H0 a = some o) : H a = some o := by
  unfold Ct.pin at h
  dsimp only at h
  split at h
  · cases h
  · exact h
theorem pin_of {a : Addr} {o : HO} (h : H a = some o) (n : ¬ (OO c σ e.sl a ∧ ¬ c.O a)) : (c.pin σ e H).H0 a = some o := by
  unfold Ct.pin
  dsimp only
  rw [if_neg n]; exact h
theorem Rel.own0 (R : Rel c σ H e) {a : Addr} (h : OO c σ e.sl a) (n : ¬ c.O a) : c.H0 a = none := by
  rcases h with h | ⟨i, xs, h1, h2⟩
  · exact absurd h n
  · obtain ⟨b, vs, g1, g2, _⟩ := (R.slots i _ h1).mine
    rw [h2] at g1; cases g1
    exact g2
theorem Rel.pin (R : Rel c σ H e) : Rel (c.pin σ e H) σ H e := by
  refine ⟨R.len, ⟨fun a q => ?_, R.ok.hot⟩, R.tpc, fun a o h _ => pin_some h, fun j s hj => ?_, R.inj, R.tp⟩
  · cases h : H a with
    | none => exact absurd h (R.hidden a (.inl q))
    | some o => rw [pin_of (c := c) (σ := σ) (e := e) h fun z => z.2 q]; exact Option.some_ne_none _
  · have z := R.slots j s hj
    cases s with
    | un => exact True.intro
    | d x => exact z
    | own ys =>
      obtain ⟨a, vs, h1, h2, h3, h4⟩ := z
      refine ⟨a, vs, h1, ?_, h3, h4⟩
      unfold Ct.pin
      dsimp only
      rw [if_pos ⟨.inr ⟨j, .l ys, hj, h1⟩, fun q => R.ok.out a q h2⟩]
    | dct ys =>
      obtain ⟨a, ob, vs, h1, h2, h3, h4, h5⟩ := z
      refine ⟨a, ob, vs, h1, ?_, h3, h4, h5⟩
      unfold Ct.pin
      dsimp only
      rw [if_pos ⟨.inr ⟨j, .k ys, hj, h1⟩, fun q => R.ok.out a q h2⟩]
    | tape => exact z
theorem Rel.unpin (R0 : Rel c σ Hs e) (R : Rel (c.pin σ e Hs) σ' H e') : Rel c σ' H e' := by
  refine ⟨R.len, R0.ok, R.tpc, fun a o h z => ?_, fun j s hj => ?_, R.inj, R.tp⟩
  · refine R.ext a o (pin_of (R0.ext a o h z) fun q => ?_) z
    rw [R0.own0 q.1 q.2] at h; cases h
  · have z := R.slots j s hj
    cases s with
    | un => exact True.intro
    | d x => exact z
    | own ys =>
      obtain ⟨a, vs, h1, h2, h3, h4⟩ := z
      refine ⟨a, vs, h1, ?_, h3, h4⟩
      cases ho : c.H0 a with
      | none => rfl
      | some o =>
        by_cases w : c.tp = true ∧ a = c.t
        · obtain ⟨w1, rfl⟩ := w
          have hO := R0.ok.hot w1
          cases h : Hs c.t with
          | none => exact absurd h (R0.hidden _ (.inl hO))
          | some o' => rw [pin_of h fun q => q.2 hO] at h2; cases h2
        · have h := R0.ext a o ho fun w1 w2 => w ⟨w1, w2⟩
          rw [pin_of h fun q => by rw [R0.own0 q.1 q.2] at ho; cases ho] at h2
          cases h2
    | dct ys =>
      obtain ⟨a, ob, vs, h1, h2, h3, h4, h5⟩ := z
      refine ⟨a, ob, vs, h1, ?_, h3, h4, h5⟩
      cases ho : c.H0 a with
      | none => rfl
      | some o =>
        by_cases w : c.tp = true ∧ a = c.t
        · obtain ⟨w1, rfl⟩ := w
          have hO := R0.ok.hot w1
          cases h : Hs c.t with
          | none => exact absurd h (R0.hidden _ (.inl hO))
          | some o' => rw [pin_of h fun q => q.2 hO] at h2; cases h2
        · have h := R0.ext a o ho fun w1 w2 => w ⟨w1, w2⟩
          rw [pin_of h fun q => by rw [R0.own0 q.1 q.2] at ho; cases ho] at h2
          cases h2
    | tape => exact z
theorem Rel.pin_le (R0 : Rel c σ Hs e) (R : Rel (c.pin σ e Hs) σ' H e') : Same (hid (OO c σ e.sl) Hs) (hid (OO c σ' e'.sl) H) := fun a o h => by
  obtain ⟨n, h⟩ := hid_some h
  have hp : (c.pin σ e Hs).H0 a = some o := pin_of h fun q => n q.1
  refine hid_of (fun q => ?_) (R.ext a o hp fun z w => n (.inl (w ▸ R0.ok.hot z)))
  rcases q with q | ⟨j, xs, h1, h2⟩
  · exact n (.inl q)
  · obtain ⟨b, vs, g1, g2, _⟩ := (R.slots j _ h1).mine
    rw [h2] at g1; cases g1
    rw [hp] at g2; cases g2
end

section
variable {X : Cx} {a b x y : Expr} {f : FX} {ft : FT} {g g1 g2 : FS} {pos : Pos} {st : Stmt} {rest : List Stmt}
theorem SPost.seq {c : Ct} {Z : Ends} {u : Sg → Hp → Prop} {e' : ES} : ∀ {o : Out}, o ≠ .nx → SPost c Z e' o → SPost c { Z with nx := u } e' o
  | .nx, n, _ => absurd rfl n
  | .bk, _, h => h
  | .ct, _, h => h
  | .rt _, _, h => h
  | .rtL _, _, h => h
theorem db_nil : DB X [] gNx := by
  refine ⟨fun c hc => pss_imp pss_nil fun Z σ H q => ?_⟩
  obtain ⟨e, R, o, e', he, q⟩ := q
  cases he
  exact q σ H R
theorem db_cons (h1 : DS X st g1) (h2 : DB X rest g2) : DB X (st :: rest) (gSeq g1 g2) := by
  refine ⟨fun c hc => pss_imp (pss_cons (h1.ps c hc) (h2.pb c hc)) fun Z σ H q => ?_⟩
  obtain ⟨e, R, o, e', he, q⟩ := q
  unfold gSeq at he
  cases q1 : g1 e with
  | none => rw [q1] at he; cases he
  | some p =>
    obtain ⟨o1, e1⟩ := p
    rw [q1] at he
    cases o1 with
    | nx => exact ⟨e, R, .nx, e1, q1, fun σ' H' R' => ⟨e1, R', o, e', he, q⟩⟩
    | bk => cases he; exact ⟨e, R, _, _, q1, q⟩
    | ct => cases he; exact ⟨e, R, _, _, q1, q⟩
    | rt r => cases he; exact ⟨e, R, _, _, q1, q⟩
    | rtL r => cases he; exact ⟨e, R, _, _, q1, q⟩
theorem db_one (h1 : DS X st g1) : DB X [st] g1 := ⟨fun c hc => pss_one (h1.ps c hc)⟩
theorem ds_pass : DS X (.Pass pos) gNx := by
  refine ⟨fun c hc => ps_imp ps_pass fun Z σ H q => ?_⟩
  obtain ⟨e, R, o, e', he, q⟩ := q
  cases he
  exact q σ H R
theorem ds_break : DS X (.Break pos) gBk := by
  refine ⟨fun c hc => ps_imp ps_break fun Z σ H q => ?_⟩
  obtain ⟨e, R, o, e', he, q⟩ := q
  cases he
  exact q σ H R
theorem ds_continue : DS X (.Continue pos) gCt := by
  refine ⟨fun c hc => ps_imp ps_continue fun Z σ H q => ?_⟩
  obtain ⟨e, R, o, e', he, q⟩ := q
  cases he
  exact q σ H R
theorem ds_ret (h : DE X x f) : DS X (.Return (some x) pos) (gRet f) := by
  refine ⟨fun c hc => ps_imp (ps_ret (h.pe c hc)) fun Z σ H q => ?_⟩
  obtain ⟨e, R, o, e', he, q⟩ := q
  unfold gRet at he
  cases q1 : f e with
  | none => rw [q1] at he; cases he
  | some p =>
    obtain ⟨r, e1⟩ := p
    rw [q1] at he; cases he
    exact ⟨e, R, r, _, q1, fun v H' S hr => q σ v H' S.rel hr⟩
theorem ds_retL {f : FL} (h : DL X x f) : DS X (.Return (some x) pos) (gRetL f) := by
  refine ⟨fun c hc => ps_imp (ps_ret (h.pl c hc)) fun Z σ H q => ?_⟩
  obtain ⟨e, R, o, e', he, q⟩ := q
  unfold gRetL at he
  cases q1 : f e with
  | none => rw [q1] at he; cases he
  | some p =>
    obtain ⟨xs, e1⟩ := p
    rw [q1] at he; cases he
    exact ⟨e, R, xs, _, q1, fun p vs H' h0 hp R' _ _ hd => q σ p vs H' h0 hp R' hd⟩
theorem ds_if {t : Expr} {A B : List Stmt} (ht : DT X t ft) (ha : DB X A g1) (hb : DB X B g2) : DS X (.If t A B pos) (gIf ft g1 g2) := by
  refine ⟨fun c hc => ps_imp (ps_if (ht.pt c hc) (ha.pb c hc) (hb.pb c hc)) fun Z σ H q => ?_⟩
  obtain ⟨e, R, o, e', he, q⟩ := q
  unfold gIf at he
  cases q1 : ft e with
  | none => rw [q1] at he; cases he
  | some p =>
    obtain ⟨k, e1⟩ := p
    rw [q1] at he
    cases k with
    | true => exact ⟨e, R, true, e1, q1, fun H1 S => iteT ⟨e1, S.rel, o, e', he, q⟩⟩
    | false => exact ⟨e, R, false, e1, q1, fun H1 S => iteF ⟨e1, S.rel, o, e', he, q⟩⟩
theorem ds_drop (h : DE X x f) (hs : swapsWith x none pos.line X.env = pure false := by rfl) : DS X (.Expr x pos) (gDrop f) := by
  refine ⟨fun c hc => ps_imp (ps_expr (h.pe c hc) hs) fun Z σ H q => ?_⟩
  obtain ⟨e, R, o, e', he, q⟩ := q
  unfold gDrop at he
  cases q1 : f e with
  | none => rw [q1] at he; cases he
  | some p =>
    obtain ⟨r, e1⟩ := p
    rw [q1] at he; cases he
    exact ⟨e, R, r, _, q1, fun v H' S hr => q σ H' S.rel⟩
/-- name = e -/
theorem gset_inv {i : Nat} {e e' : ES} {o : Out} (h : gSet i f e = some (o, e')) : ∃ r e1 d e2, f e = some (r, e1) ∧ fz r e1 = some (d, e2) ∧ o = .nx ∧ e' = e2.set i (.d d) := by
  unfold gSet at h
  cases q1 : f e with
  | none => rw [q1] at h; cases h
  | some p =>
    obtain ⟨r, e1⟩ := p
    rw [q1] at h; dsimp only at h
    cases q2 : fz r e1 with
    | none => rw [q2] at h; cases h
    | some p =>
      obtain ⟨d, e2⟩ := p
      rw [q2] at h; cases h
      exact ⟨r, e1, d, e2, rfl, q2, rfl, rfl⟩
theorem set_core {i : Nat} {c : Ct} {Z : Ends} {σ : Sg} {H : Hp} (q : tS c (gSet i f) Z σ H) : tAsg (tD c f) (gName i) Z σ H := by
  obtain ⟨e, R, o, e', he, q⟩ := q
  obtain ⟨r, e1, d, e2, h1, h2, rfl, rfl⟩ := gset_inv he
  refine ⟨e, R, r, e1, h1, fun v H' S hr => ?_⟩
  obtain ⟨S2, hd⟩ := fz_ok S.rel hr h2
  exact q _ H' (S2.rel.set hd)
theorem ds_set (i : Nat) {x : Str} {e : Expr} {pos' : Pos} (hN : X.N.Nodup) (h : DE X e f) (hi : X.N[i]? = some x := by rfl) (hx : Loc X.env.scope x := by first | exact Or.inl rfl | exact Or.inr rfl) (hs : swapsWith e (some (.Name x pos')) pos.line X.env = pure false := by rfl)
    (hf : X.fn x = true ∨ X.env.scope.names.lookup x = some .local := by first | exact .inl rfl | exact .inr rfl | assumption) : DS X (.Assign [.Name x pos'] e pos) (gSet i f) :=
  ⟨fun c hc => ps_imp (ps_set hN hi hx (h.pe c hc) hs hf) fun _ _ _ q => set_core q⟩
theorem own_core {i : Nat} {f : FL} {c : Ct} {Z : Ends} {σ : Sg} {H : Hp} (q : tS c (gOwn i f) Z σ H) : tAsg (tL c f) (gName i) Z σ H := by
  obtain ⟨e, R, o, e', he, q⟩ := q
  unfold gOwn at he
  cases q1 : f e with
  | none => rw [q1] at he; cases he
  | some p =>
    obtain ⟨xs, e1⟩ := p
    rw [q1] at he; cases he
    exact ⟨e, R, xs, e1, q1, fun p vs H' h0 hp R' _ _ hd => q _ H' (R'.setOwn R.ok h0 hp hd)⟩
theorem ds_own (i : Nat) {f : FL} {x : Str} {e : Expr} {pos' : Pos} (hN : X.N.Nodup) (h : DL X e f) (hi : X.N[i]? = some x := by rfl) (hx : Loc X.env.scope x := by first | exact Or.inl rfl | exact Or.inr rfl) (hs : swapsWith e (some (.Name x pos')) pos.line X.env = pure false := by rfl)
    (hf : X.fn x = true ∨ X.env.scope.names.lookup x = some .local := by first | exact .inl rfl | exact .inr rfl | assumption) : DS X (.Assign [.Name x pos'] e pos) (gOwn i f) :=
  ⟨fun c hc => ps_imp (ps_set hN hi hx (h.pl c hc) hs hf) fun _ _ _ q => own_core q⟩
/-! ### targets -/
theorem OO.set {c : Ct} {σ : Sg} {sl : List Sl} {i : Nat} {v : V} {x : D} : ∀ a, OO c (σ.set i (some v)) (sl.set i (.d x)) a → OO c σ sl a := fun a q => by
  rcases q with q | ⟨j, xs, h1, h2⟩
  · exact .inl q
  · obtain ⟨n, h1⟩ := own_set h1
    rw [List.getElem?_set_ne (Ne.symm n)] at h2
    exact .inr ⟨j, xs, h1, h2⟩
def kName (i : Nat) : FG := fun d e => some (e.set i (.d d))
theorem kp_set {c : Ct} {σ : Sg} {e : ES} {v : V} {d : D} (i : Nat) : Kp c [i] σ (σ.set i (some v)) e (e.set i (.d d)) :=
  ⟨OO.set, fun j hj => List.getElem?_set_ne (fun z => hj (by simp [z])), List.length_set⟩
theorem Kp.trans {c : Ct} {is js : List Nat} {σ σ1 σ2 : Sg} {e e1 e2 : ES} (a : Kp c is σ σ1 e e1) (b : Kp c js σ1 σ2 e1 e2) : Kp c (is ++ js) σ σ2 e e2 :=
  ⟨fun x z => a.sh x (b.sh x z), fun j hj => (b.at_ j fun z => hj (by simp [z])).trans (a.at_ j fun z => hj (by simp [z])), b.len.trans a.len⟩
theorem dg_name (i : Nat) {x : Str} (hN : X.N.Nodup) (hi : X.N[i]? = some x := by rfl) (hx : Loc X.env.scope x := by first | exact Or.inl rfl | exact Or.inr rfl)
    (hf : X.fn x = true ∨ X.env.scope.names.lookup x = some .local := by first | exact .inl rfl | exact .inr rfl | assumption) : DG X (.Name x pos) [i] (kName i) := by
  refine ⟨fun c hc => pg_imp (pg_name hN hi hx hf) fun v σ H Q q => ?_⟩
  obtain ⟨e, d, R, hd, e', he, q⟩ := q
  cases he
  exact q _ (R.set hd) (kp_set i)
abbrev FGs := List D → ES → Option ES
def tGs (c : Ct) (is : List Nat) (g : FGs) : TGs := fun vs σ H Q => ∃ e ds, Rel c σ H e ∧ DqAll c.K (hid (OO c σ e.sl) H) vs ds ∧ ∃ e', g ds e = some e' ∧ ∀ σ', Rel c σ' H e' → Kp c is σ σ' e e' → Q σ' H
/-- one name after another -/
def kNames : List Nat → FGs
  | [], [], e => some e
  | i :: is, d :: ds, e => kNames is ds (e.set i (.d d))
  | _, _, _ => none
structure DGs (X : Cx) (tgs : List Expr) (is : List Nat) : Prop where
  pgs : ∀ c : Ct, c.K = X.K → PGs X tgs (tGs c is (kNames is))
theorem pgs_imp {X : Cx} {x : List Expr} {t t' : TGs} (h : PGs X x t) (i : ∀ v σ H Q, t' v σ H Q → t v σ H Q) : PGs X x t' := ⟨fun pins s σ H v u Q I r q => h.run pins s σ H v u Q I r (i v σ H Q q)⟩
theorem Rel.set_le {c : Ct} {σ : Sg} {H : Hp} {e : ES} {i : Nat} {v : V} {x : D} : Same (hid (OO c σ e.sl) H) (hid (OO c (σ.set i (some v)) (e.set i (.d x)).sl) H) := hid_same (fun a q => .inl (by
    rcases q with q | ⟨j, xs, h1, h2⟩
    · exact .inl q
    · obtain ⟨n, h1⟩ := own_set (show (e.sl.set i (.d x))[j]? = some xs.sl from h1)
      rw [List.getElem?_set_ne (Ne.symm n)] at h2
      exact .inr ⟨j, xs, h1, h2⟩)) fun _ _ _ h => h
theorem dgs_nil : DGs X [] [] := by
  refine ⟨fun c hc => pgs_imp pgs_nil fun v σ H Q q => ?_⟩
  obtain ⟨e, ds, R, hd, e', he, q⟩ := q
  cases hd with
  | nil => cases he; exact ⟨rfl, q σ R ⟨fun _ z => z, fun _ _ => rfl, rfl⟩⟩
  | cons _ _ => cases he
theorem dgs_cons (i : Nat) {is : List Nat} {x : Str} {p : Pos} {es : List Expr} (hN : X.N.Nodup) (h2 : DGs X es is) (hi : X.N[i]? = some x := by rfl) (hx : Loc X.env.scope x := by first | exact Or.inl rfl | exact Or.inr rfl)
    (hf : X.fn x = true ∨ X.env.scope.names.lookup x = some .local := by first | exact .inl rfl | exact .inr rfl | assumption)
    (hs : (assignEach (.Name x p :: es) X.env).map (·.2) = assign (.Name x p) X.env :: (assignEach es X.env).map (·.2) := by rfl) : DGs X (.Name x p :: es) (i :: is) := by
  refine ⟨fun c hc => pgs_imp (pgs_cons (pg_name hN hi hx hf) (h2.pgs c hc) hs) fun v σ H Q q => ?_⟩
  obtain ⟨e, ds, R, hd, e', he, q⟩ := q
  cases hd with
  | nil => cases he
  | cons h1 h3 => exact ⟨_, _, rfl, _, _, R.set h1, dpAll_mono Rel.set_le h3, e', he, fun σ' R' k => q σ' R' ((kp_set i).trans k)⟩
def kTup (is : List Nat) : FG := fun d e => match d with
  | .tuple ds => kNames is ds e
  | _ => none
theorem kNames_len : ∀ {is : List Nat} {ds : List D} {e e' : ES}, kNames is ds e = some e' → ds.length = is.length
  | [], [], _, _, _ => rfl
  | i :: is, d :: ds, e, e', h => by simp [kNames_len (is := is) h]
  | [], _ :: _, _, _, h => by cases h
  | _ :: _, [], _, _, h => by cases h
theorem dg_tup {es : List Expr} {k : Nat} {is : List Nat} (hcm : X.calm = true) (h : DGs X es is) (hn : (assignEach es X.env).length = is.length := by rfl) (hst : (assignEach es X.env).findIdx? (·.1) = none := by rfl) : DG X (.Tuple es k pos) is (kTup is) := by
  refine ⟨fun c hc => pg_imp (pg_tup (n := is.length) hcm (h.pgs c hc) hn hst) fun v σ H Q q => ?_⟩
  obtain ⟨e, d, R, hd, e', he, q⟩ := q
  unfold kTup at he
  cases hd with
  | tup h1 h2 =>
    refine ⟨_, _, rfl, ?_, ?_, e, _, R, h2, e', he, q⟩
    · rw [← hc]; exact sqT_mono hid_le h1
    · rw [dpAll_len h2]; exact kNames_len he
  | _ => cases he
/-- target = e -/
theorem gasg_inv {k : FG} {e e' : ES} {o : Out} (h : gAsg f k e = some (o, e')) : ∃ r e1 d e2, f e = some (r, e1) ∧ fz r e1 = some (d, e2) ∧ o = .nx ∧ k d e2 = some e' := by
  unfold gAsg at h
  cases q1 : f e with
  | none => rw [q1] at h; cases h
  | some p =>
    obtain ⟨r, e1⟩ := p
    rw [q1] at h; dsimp only at h
    cases q2 : fz r e1 with
    | none => rw [q2] at h; cases h
    | some p =>
      obtain ⟨d, e2⟩ := p
      rw [q2] at h; dsimp only at h
      cases q3 : k d e2 with
      | none => rw [q3] at h; cases h
      | some e3 => rw [q3] at h; cases h; exact ⟨r, e1, d, e2, rfl, q2, rfl, q3⟩
theorem ds_asg {tg e : Expr} {k : FG} {is : List Nat} (h : DE X e f) (hg : DG X tg is k) (hs : swapsWithSole [tg] e pos.line X.env = pure false := by rfl) (hw : swappedStores [tg] e X.env = pure none := by rfl)
    (h1 : (assignEach [tg] X.env).map (·.2) = [assign tg X.env] := by rfl) : DS X (.Assign [tg] e pos) (gAsg f k) := by
  refine ⟨fun c hc => ps_imp (ps_asg (h.pe c hc) (hg.pg c hc) hs hw h1) fun Z σ H q => ?_⟩
  obtain ⟨e, R, o, e', he, q⟩ := q
  obtain ⟨r, e1, d, e2, h1, h2, rfl, h3⟩ := gasg_inv he
  refine ⟨e, R, r, e1, h1, fun v H' S hr => ?_⟩
  obtain ⟨S2, hd⟩ := fz_ok S.rel hr h2
  exact ⟨e2, d, S2.rel, hd, e', h3, fun σ' R' _ => q σ' H' R'⟩
/-! ### loops -/
theorem Rel.pin_fresh {c : Ct} {σ : Sg} {e : ES} {Hs : Hp} {p : Addr} (R0 : Rel c σ Hs e) (h0 : (c.pin σ e Hs).H0 p = none) : c.H0 p = none := by
  cases ho : c.H0 p with
  | none => rfl
  | some o =>
    by_cases w : c.tp = true ∧ p = c.t
    · obtain ⟨w1, rfl⟩ := w
      have hO := R0.ok.hot w1
      cases h : Hs c.t with
      | none => exact absurd h (R0.hidden _ (.inl hO))
      | some o' => rw [pin_of h fun q => q.2 hO] at h0; cases h0
    · have h := R0.ext p o ho fun w1 w2 => w ⟨w1, w2⟩
      rw [pin_of h fun q => by rw [R0.own0 q.1 q.2] at ho; cases ho] at h0
      cases h0
theorem Rel.unpinPlus {c : Ct} {σ σ' : Sg} {e e' : ES} {Hs H' : Hp} {p : Addr} {vs : List V} (R0 : Rel c σ Hs e) (R : Rel ((c.pin σ e Hs).plus p vs) σ' H' e') (h0 : (c.pin σ e Hs).H0 p = none) (hp : H' p = some (.lst vs)) : Rel (c.plus p vs) σ' H' e' := by
  have R1 : Rel (c.pin σ e Hs) σ' H' e' := R.unplus R0.pin.ok h0
  have R2 := R0.unpin R1
  refine ⟨R2.len, ⟨fun a q => ?_, fun z => .inl (R0.ok.hot z)⟩, R2.tpc, fun a o ha z => ?_, fun j s hj => ?_, R2.inj, fun τ hτ => R.tp τ hτ⟩
  · show upd c.H0 p (.lst vs) a ≠ none
    by_cases z : a = p
    · subst z; rw [upd_same]; exact Option.some_ne_none _
    · rw [upd_ne z]
      rcases q with q | q
      · exact R0.ok.out a q
      · exact absurd q z
  · by_cases w : a = p
    · subst w
      have ha' : upd c.H0 a (.lst vs) a = some o := ha
      rw [upd_same] at ha'; cases ha'; exact hp
    · have ha' : upd c.H0 p (.lst vs) a = some o := ha
      rw [upd_ne w] at ha'
      exact R2.ext a o ha' z
  · have z := R.slots j s hj
    cases s with
    | un => exact True.intro
    | d x => exact z
    | own ys =>
      obtain ⟨a, ws, g1, g2, g3, g4⟩ := z
      refine ⟨a, ws, g1, ?_, g3, g4⟩
      obtain ⟨a', ws', k1, k2, _, _⟩ := R2.slots j _ hj
      rw [g1] at k1; cases k1
      show upd c.H0 p (.lst vs) a = none
      have g2' : upd (c.pin σ e Hs).H0 p (.lst vs) a = none := g2
      by_cases w : a = p
      · subst w; rw [upd_same] at g2'; cases g2'
      · rw [upd_ne w]; exact k2
    | dct ys =>
      obtain ⟨a, ob, ws, g1, g2, g3, g4, g5⟩ := z
      refine ⟨a, ob, ws, g1, ?_, g3, g4, g5⟩
      obtain ⟨a', ob', ws', k1, k2, _⟩ := R2.slots j _ hj
      rw [g1] at k1; cases k1
      show upd c.H0 p (.lst vs) a = none
      have g2' : upd (c.pin σ e Hs).H0 p (.lst vs) a = none := g2
      by_cases w : a = p
      · subst w; rw [upd_same] at g2'; cases g2'
      · rw [upd_ne w]; exact k2
    | tape => exact z
theorem SPost.unpin {c : Ct} {σ : Sg} {e : ES} {Hs : Hp} {Z : Ends} {e' : ES} (R0 : Rel c σ Hs e) : ∀ {o : Out}, SPost c Z e' o → SPost (c.pin σ e Hs) Z e' o
  | .nx, h => fun σ' H' R => h σ' H' (R0.unpin R)
  | .bk, h => fun σ' H' R => h σ' H' (R0.unpin R)
  | .ct, h => fun σ' H' R => h σ' H' (R0.unpin R)
  | .rt r, h => fun σ' v H' R hr => h σ' v H' (R0.unpin R) (by cases r <;> exact hr)
  | .rtL xs, h => fun σ' p vs H' h0 hp R hd => h σ' p vs H' (R0.pin_fresh h0) hp (R0.unpinPlus R h0 hp) hd
theorem pss_ex {g : FS} (h : DB X rest g) : PSs X rest (fun Z σ H => ∃ c : Ct, c.K = X.K ∧ tS c g Z σ H) := ⟨fun pins s σ H Z I ⟨c, hc, q⟩ => (h.pb c hc).run pins s σ H Z I q⟩
theorem pg_ex {k : FG} {tg : Expr} {is : List Nat} (h : DG X tg is k) : PG X tg (fun v σ H Q => ∃ c : Ct, c.K = X.K ∧ tG c is k v σ H Q) := ⟨fun pins s σ H v u Q I r ⟨c, hc, q⟩ => (h.pg c hc).run pins s σ H v u Q I r q⟩
theorem ds_for {tg iter : Expr} {body : List Stmt} {fi : FL} {k : FG} {is : List Nat} (hp : PassesOwn (model X.prog X.w) X.A X.env X.xe) (hcm : X.calm = true) (hi : DI X tg iter fi) (hg : DG X tg is k) (hb : DB X body g)
    (hs : ∀ x, foldedSetIterable iter X.env x = pure x := by intro _; rfl) : DS X (.For tg iter body [] pos) (gFor fi k g) := by
  refine ⟨fun c hc => ps_imp (ps_for hp hcm (hi.pi c hc) (pg_ex hg) (pss_ex hb) hs) fun Z σ H q => ?_⟩
  obtain ⟨e, R, o, e', he, q⟩ := q
  unfold gFor at he
  cases q1 : fi e with
  | none => rw [q1] at he; cases he
  | some p =>
  obtain ⟨ds, e1⟩ := p
  rw [q1] at he; dsimp only at he
  refine ⟨e, R, ds, e1, q1, fun J H1 S wk => ?_⟩
  have R1 := S.rel
  refine ⟨fun i m σ' H' => ∃ ei, i ≤ ds.length ∧ m = ds.length - i ∧ Rel (c.pin σ e1 H1) σ' H' ei ∧ loopF k g (ds.drop i) ei = some (o, e'), ⟨_, e1, Nat.zero_le _, rfl, R1.pin, he⟩, ?_⟩
  rintro i m σ' H' ⟨ei, hi, rfl, Ri, hl⟩
  have w := wk (OO (c.pin σ e1 H1) σ' ei.sl) H' (R1.pin_le Ri) Ri.hidden
  by_cases hlt : i < ds.length
  · obtain ⟨d, hd⟩ : ∃ d, ds[i]? = some d := ⟨ds[i], by simp [hlt]⟩
    obtain ⟨w1, w2⟩ := w.2 i d hd
    refine .inr ⟨w1, fun σ2 H2 => ∃ e2, Rel (c.pin σ e1 H1) σ2 H2 e2 ∧ loopF k g (ds.drop (i + 1)) e2 = some (o, e'), fun σ2 H2 ⟨e2, R2, h2⟩ => ⟨ds.length - (i + 1), by omega, e2, hlt, rfl, R2, h2⟩, fun x H'' y => ?_⟩
    obtain ⟨sm, hx⟩ := w2 x H'' y
    have hdr : ds.drop i = d :: ds.drop (i + 1) := by
      rw [List.drop_eq_getElem_cons hlt]
      congr 1
      have := List.getElem?_eq_some_iff.mp hd
      exact this.2
    rw [hdr] at hl
    unfold loopF at hl
    cases q2 : k d ei with
    | none => rw [q2] at hl; cases hl
    | some e2 =>
    rw [q2] at hl; dsimp only at hl
    refine ⟨c.pin σ e1 H1, hc, ei, d, Ri.grow sm, hx, e2, q2, fun σ2 R2 _ => ?_⟩
    cases q3 : g e2 with
    | none => rw [q3] at hl; cases hl
    | some p =>
    obtain ⟨o3, e3⟩ := p
    rw [q3] at hl
    refine ⟨c.pin σ e1 H1, hc, e2, R2, o3, e3, q3, ?_⟩
    cases o3 with
    | nx => exact fun σ3 H3 R3 => ⟨e3, R3, hl⟩
    | ct => exact fun σ3 H3 R3 => ⟨e3, R3, hl⟩
    | bk => cases hl; exact fun σ3 H3 R3 => q σ3 H3 (R1.unpin R3)
    | rt r => cases hl; exact SPost.unpin (Z := { Z with nx := _, ct := _, bk := _ }) R1 (show SPost c { Z with nx := _, ct := _, bk := _ } _ (.rt r) from q)
    | rtL r => cases hl; exact SPost.unpin (Z := { Z with nx := _, ct := _, bk := _ }) R1 (show SPost c { Z with nx := _, ct := _, bk := _ } _ (.rtL r) from q)
  · have ei' : i = ds.length := by omega
    subst ei'
    rw [List.drop_length] at hl
    cases hl
    exact .inl ⟨w.1, q σ' H' (R1.unpin Ri)⟩
theorem ds_while {t : Expr} {body : List Stmt} (hp : PassesOwn (model X.prog X.w) X.A X.env X.xe) (ht : DT X t ft) (hb : DB X body g) : DS X (.While t body [] pos) (gWhile ft g) := by
  refine ⟨fun c hc => ps_imp (ps_while hp (ht.pt c hc) (hb.pb c hc)) fun Z σ H q => ?_⟩
  obtain ⟨e, R, o, e', he, q⟩ := q
  obtain ⟨n, hn⟩ := gWhile_inv he
  refine ⟨fun m σ' H' => ∃ ei, Rel c σ' H' ei ∧ loopW ft g m ei = some (o, e'), ⟨n, e, R, hn⟩, ?_⟩
  rintro m σ' H' ⟨ei, Ri, hl⟩
  cases m with
  | zero => cases hl
  | succ m =>
  unfold loopW at hl
  cases q1 : ft ei with
  | none => rw [q1] at hl; cases hl
  | some p =>
  obtain ⟨k, e1⟩ := p
  rw [q1] at hl
  refine ⟨ei, Ri, k, e1, q1, fun H1 S => ?_⟩
  cases k with
  | false => cases hl; exact iteF (q σ' H1 S.rel)
  | true =>
    dsimp only at hl
    cases q3 : g e1 with
    | none => rw [q3] at hl; cases hl
    | some p =>
    obtain ⟨o3, e3⟩ := p
    rw [q3] at hl
    refine iteT ⟨fun σ2 H2 => ∃ e2, Rel c σ2 H2 e2 ∧ loopW ft g m e2 = some (o, e'), fun σ2 H2 ⟨e2, R2, h2⟩ => ⟨m, by omega, e2, R2, h2⟩, e1, S.rel, o3, e3, q3, ?_⟩
    cases o3 with
    | nx => exact fun σ3 H3 R3 => ⟨e3, R3, hl⟩
    | ct => exact fun σ3 H3 R3 => ⟨e3, R3, hl⟩
    | bk => cases hl; exact fun σ3 H3 R3 => q σ3 H3 R3
    | rt r => cases hl; exact q
    | rtL r => cases hl; exact q
end
end DD

namespace DD
open PySem PySem.Spec PyProof.Rows L2

/-! ### what defs promise -/
abbrev FP := List D → Option D
abbrev FPL := List D → Option (List D)
abbrev FTp := Tp → List D → Option (D × Tp)
/-- a def of data: everything stays, the answer is f's -/
def spP (K : PySem.W.Frag) (f : FP) : Sp := fun vs H Q _ => ∃ (O : Addr → Prop) (ds : List D) (d : D), (∀ a, O a → H a ≠ none) ∧ DqAll K (hid O H) vs ds ∧ f ds = some d ∧ ∀ v H', Same H H' → Dq K (hid O H') v d → Q v H'
/-- .. whose answer is a new list -/
def spL (K : PySem.W.Frag) (f : FPL) : Sp := fun vs H Q _ => ∃ (O : Addr → Prop) (ds xs : List D), (∀ a, O a → H a ≠ none) ∧ DqAll K (hid O H) vs ds ∧ f ds = some xs ∧
  ∀ p ws H', H p = none → H' p = some (.lst ws) → Same H H' → DqAll K (hid (fun a => O a ∨ a = p) H') ws xs → Q (.ref p) H'
/-- a def that draws from the tape -/
def spT (K : PySem.W.Frag) (f : FTp) : Sp := fun vs H Q _ => ∃ (O : Addr → Prop) (t : Addr) (vs' : List V) (ds : List D) (τ : Tp) (d : D) (τ' : Tp), (∀ a, O a → H a ≠ none) ∧ O t ∧ vs = .ref t :: vs' ∧ DqAll K (hid O H) vs' ds ∧ TapeAt K O H t τ ∧ f τ ds = some (d, τ') ∧
  ∀ v H', (∀ a o, a ≠ t → H a = some o → H' a = some o) → TapeAt K O H' t τ' → Dq K (hid O H') v d → Q v H'
def scal : D → Bool
  | .none => true
  | .bool _ => true
  | .int _ => true
  | .str _ => true
  | _ => false
def Rv.isD : Rv → Bool
  | .d _ => true
  | _ => false
def xFn (f : FP) (a : FA) : FX := fun e => match a e with
  | some (rs, e1) => (match rds e1 rs with
    | some ds => (match f ds with
      | some d => if (rs.all Rv.isD || scal d) = true then some (.d d, e1) else (match fzs rs e1 with
        | some (ds2, e2) => (match f ds2 with
          | some d2 => some (.d d2, e2)
          | none => none)
        | none => none)
      | none => none)
    | none => none)
  | none => none
def xFnL (f : FPL) (a : FA) : FL := fun e => match a e with
  | some (rs, e1) => (match rds e1 rs with
    | some ds => (match f ds with
      | some xs => if rs.all Rv.isD = true then some (xs, e1) else none
      | none => none)
    | none => none)
  | none => none
def xFnT (f : FTp) (a : FA) : FX := fun e => match a e with
  | some (.tape :: rs, e1) => (match rds e1 rs, e1.tp with
    | some ds, some τ => (match f τ ds with
      | some (d, τ') => if rs.all Rv.isD = true then some (.d d, ⟨e1.sl, some τ'⟩) else none
      | none => none)
    | _, _ => none)
  | _ => none
section
variable {c : Ct} {σ : Sg} {H H' : Hp} {e : ES} {K : PySem.W.Frag} {O : Addr → Prop}
theorem rds_data : ∀ {vs : List V} {rs : List Rv} {ds : List D}, RvRs c σ H e.sl vs rs → rds e rs = some ds → rs.all Rv.isD = true → DqAll c.K (hid (OO c σ e.sl) H) vs ds
  | [], [], _, _, q, _ => by cases q; exact .nil
  | v :: vs, r :: rs, ds, h, q, a => by
    rw [List.all_cons, Bool.and_eq_true] at a
    cases r with
    | d x =>
      unfold rds at q
      have e1 : rd e (.d x) = some x := rfl
      rw [e1] at q
      obtain ⟨ds', h2, rfl⟩ := Option.map_eq_some_iff.mp q
      exact .cons h.1 (rds_data h.2 h2 a.2)
    | _ => cases a.1
  | [], _ :: _, _, h, _, _ => h.elim
  | _ :: _, [], _, h, _, _ => h.elim
theorem rbAll_dp : ∀ {vs : List V} {ds : List D}, RbAll K O H vs ds → DqAll K H vs ds
  | [], [], _ => .nil
  | v :: vs, d :: ds, h => .cons h.1.dp (rbAll_dp h.2)
  | [], _ :: _, h => h.elim
  | _ :: _, [], h => h.elim
theorem hid_false : hid (fun _ => False) H = H := by
  funext a; unfold hid; rw [if_neg id]
theorem dp_scal {v : V} {d : D} {H1 H2 : Hp} (h : Dq K H1 v d) (s : scal d = true) : Dq K H2 v d := by
  cases h with
  | non => exact .non
  | bl b => exact .bl b
  | int i => exact .int i
  | str x => exact .str x
  | _ => cases s
/-- only the tape has changed -/
theorem Stp.tape (R : Rel c σ H e) {τ' : Tp} (hp : c.tp = true) (k : ∀ a o, a ≠ c.t → H a = some o → H' a = some o) (T : TapeAt c.K (OO c σ e.sl) H' c.t τ') : Stp c σ e H ⟨e.sl, some τ'⟩ H' := by
  have hO : c.O c.t := R.ok.hot hp
  have fr : Fr (OO c σ e.sl) H H' := fun a o n h => k a o (fun z => n (.inl (z ▸ hO))) h
  have hs : Same (hid (OO c σ e.sl) H) (hid (OO c σ e.sl) H') := hid_same (fun _ q => .inl q) fr
  refine ⟨⟨R.len, R.ok, hp.symm, fun a o h z => k a o (z hp) (R.ext a o h z), fun i s hi => ?_, R.inj, fun τ hτ => ?_⟩, fun _ q => q, fr⟩
  · have z := R.slots i s hi
    cases s with
    | un => exact True.intro
    | d x => obtain ⟨v, h1, h2⟩ := z; exact ⟨v, h1, dp_mono hs h2⟩
    | own xs =>
      obtain ⟨a, vs, h1, h2, h3, h4⟩ := z
      exact ⟨a, vs, h1, h2, k _ _ (fun w => by subst w; exact R.ok.out _ hO h2) h3, dpAll_mono hs h4⟩
    | dct kvs =>
      obtain ⟨a, o, vs, h1, h2, h3, h4, h5⟩ := z
      exact ⟨a, o, vs, h1, h2, k _ _ (fun w => by subst w; exact R.ok.out _ hO h2) h3, h4, dpKv_mono hs h5⟩
    | tape => exact z
  · cases hτ; exact T
end

section
variable {X : Cx} {CX : CXT} {k : Nat} {f : Addr} {fd : FuncData} {ps : List Str} {x : Str} {p pos : Pos} {a : Expr} {as : List Expr} {fa : FA} {E : XK}
theorem xfn_core {K : PySem.W.Frag} {g : FP} {c : Ct} {σ : Sg} {H : Hp} {Q : VK} (hc : c.K = K) (h : tD c (xFn g fa) σ H Q) : tCall (spP K g) [] E (tA c fa) σ H Q := by
  obtain ⟨e, R, r, e', he, q⟩ := h
  unfold xFn at he
  cases h1 : fa e with
  | none => rw [h1] at he; cases he
  | some p1 =>
  obtain ⟨rs, e1⟩ := p1
  rw [h1] at he; dsimp only at he
  cases h2 : rds e1 rs with
  | none => rw [h2] at he; cases he
  | some ds =>
  rw [h2] at he; dsimp only at he
  cases h3 : g ds with
  | none => rw [h3] at he; cases he
  | some d =>
  rw [h3] at he; dsimp only at he
  split at he
  · rename_i hor
    cases he
    refine ⟨e, R, rs, _, h1, fun vs H1 S hrs => ?_⟩
    show spP K g (vs ++ []) H1 Q E
    rw [List.append_nil]
    subst hc
    rcases Bool.or_eq_true_iff.mp hor with ha | hs
    · exact ⟨OO c σ e'.sl, ds, d, S.rel.hidden, rds_data hrs h2 ha, h3, fun v H' sm hd => q v H' (S.trans (Stp.grow S.rel sm)) hd⟩
    · refine ⟨fun _ => False, ds, d, fun _ z => z.elim, ?_, h3, fun v H' sm hd => q v H' (S.trans (Stp.grow S.rel sm)) (dp_scal hd hs)⟩
      rw [hid_false]
      exact rbAll_dp (RvRs.rb S.rel hrs h2)
  · cases h4 : fzs rs e1 with
    | none => rw [h4] at he; cases he
    | some p2 =>
    obtain ⟨ds2, e2⟩ := p2
    rw [h4] at he; dsimp only at he
    cases h5 : g ds2 with
    | none => rw [h5] at he; cases he
    | some d2 =>
    rw [h5] at he
    cases he
    refine ⟨e, R, rs, _, h1, fun vs H1 S hrs => ?_⟩
    show spP K g (vs ++ []) H1 Q E
    rw [List.append_nil]
    subst hc
    obtain ⟨S2, hds⟩ := fzs_ok S.rel hrs h4
    exact ⟨OO c σ e'.sl, ds2, d2, S2.rel.hidden, hds, h5, fun v H' sm hd => q v H' ((S.trans S2).trans (Stp.grow S2.rel sm)) hd⟩
theorem de_fn {g : FP} (F : FnOk X.prog X.w X.K X.mg X.base CX k f fd ps (spP X.K g)) (hr : Room k X.A) (hm : X.mg x = some (.ref f)) (hk : PySem.W.keepIn X.K (.ref f) = true) (hb : Binds X.K fd ps []) (hx : Passes CX X E)
    (ha : DA X (a :: as) fa) (hg : Gl X x := by rfl) (hdb : (x == ("__debug__" : Str)) = false := by decide) (he : starEach (a :: as) X.env = (false, eval a X.env) :: starEach as X.env := by rfl) (hpl : (backTo pos (starEach as X.env)).any (·.1) = false := by rfl) :
    DE X (.Call (.Name x p) (a :: as) [] pos) (xFn g fa) :=
  ⟨fun c hc => pe_imp (pe_call F hr hg hm hk hb .nil hx (ha.pa c hc) hdb he hpl) fun _ _ _ q => xfn_core hc q⟩
theorem de_fn0 {g : FP} (F : FnOk X.prog X.w X.K X.mg X.base CX k f fd ps (spP X.K g)) (hr : Room k X.A) (hm : X.mg x = some (.ref f)) (hk : PySem.W.keepIn X.K (.ref f) = true) (hb : Binds X.K fd ps []) (hx : Passes CX X E)
    (hg : Gl X x := by rfl) (hdb : (x == ("__debug__" : Str)) = false := by decide) : DE X (.Call (.Name x p) [] [] pos) (xFn g aNil) :=
  ⟨fun c hc => pe_imp (pe_call0 F hr hg hm hk hb .nil hx hdb) fun σ H Q q => by
    obtain ⟨e, R, rs, e1, h1, h2⟩ := xfn_core (E := E) hc q
    cases h1
    exact h2 [] H (Stp.refl R) True.intro⟩
theorem xfnl_core {K : PySem.W.Frag} {g : FPL} {c : Ct} {σ : Sg} {H : Hp} {Q : VK} (hc : c.K = K) (h : tL c (xFnL g fa) σ H Q) : tCall (spL K g) [] E (tA c fa) σ H Q := by
  obtain ⟨e, R, r, e', he, q⟩ := h
  unfold xFnL at he
  cases h1 : fa e with
  | none => rw [h1] at he; cases he
  | some p1 =>
  obtain ⟨rs, e1⟩ := p1
  rw [h1] at he; dsimp only at he
  cases h2 : rds e1 rs with
  | none => rw [h2] at he; cases he
  | some ds =>
  rw [h2] at he; dsimp only at he
  cases h3 : g ds with
  | none => rw [h3] at he; cases he
  | some d =>
  rw [h3] at he; dsimp only at he
  split at he
  · rename_i ha
    cases he
    refine ⟨e, R, rs, _, h1, fun vs H1 S hrs => ?_⟩
    show spL K g (vs ++ []) H1 Q E
    rw [List.append_nil]
    subst hc
    refine ⟨OO c σ e'.sl, ds, _, S.rel.hidden, rds_data hrs h2 ha, h3, fun p ws H' hp hp' sm hd => ?_⟩
    have Rp := S.rel.plus (vs := ws) hp hp' sm
    refine q p ws H' (S.rel.fresh hp) hp' Rp S.shr (fun a o n z => sm a o (S.fr a o n z)) ?_
    have eO : (fun a => OO c σ e'.sl a ∨ a = p) = OO (c.plus p ws) σ e'.sl := funext fun a => propext (OO.plus a).symm
    rw [← eO]; exact hd
  · cases he
theorem dl_fn {g : FPL} (F : FnOk X.prog X.w X.K X.mg X.base CX k f fd ps (spL X.K g)) (hr : Room k X.A) (hm : X.mg x = some (.ref f)) (hk : PySem.W.keepIn X.K (.ref f) = true) (hb : Binds X.K fd ps []) (hx : Passes CX X E)
    (ha : DA X (a :: as) fa) (hg : Gl X x := by rfl) (hdb : (x == ("__debug__" : Str)) = false := by decide) (he : starEach (a :: as) X.env = (false, eval a X.env) :: starEach as X.env := by rfl) (hpl : (backTo pos (starEach as X.env)).any (·.1) = false := by rfl) :
    DL X (.Call (.Name x p) (a :: as) [] pos) (xFnL g fa) :=
  ⟨fun c hc => pe_imp (pe_call F hr hg hm hk hb .nil hx (ha.pa c hc) hdb he hpl) fun _ _ _ q => xfnl_core hc q⟩
theorem dl_fn0 {g : FPL} (F : FnOk X.prog X.w X.K X.mg X.base CX k f fd ps (spL X.K g)) (hr : Room k X.A) (hm : X.mg x = some (.ref f)) (hk : PySem.W.keepIn X.K (.ref f) = true) (hb : Binds X.K fd ps []) (hx : Passes CX X E)
    (hg : Gl X x := by rfl) (hdb : (x == ("__debug__" : Str)) = false := by decide) : DL X (.Call (.Name x p) [] [] pos) (xFnL g aNil) :=
  ⟨fun c hc => pe_imp (pe_call0 F hr hg hm hk hb .nil hx hdb) fun σ H Q q => by
    obtain ⟨e, R, rs, e1, h1, h2⟩ := xfnl_core (E := E) hc q
    cases h1
    exact h2 [] H (Stp.refl R) True.intro⟩
theorem xfnt_core {K : PySem.W.Frag} {g : FTp} {c : Ct} {σ : Sg} {H : Hp} {Q : VK} (hc : c.K = K) (h : tD c (xFnT g fa) σ H Q) : tCall (spT K g) [] E (tA c fa) σ H Q := by
  obtain ⟨e, R, r, e', he, q⟩ := h
  unfold xFnT at he
  split at he
  · rename_i rs e1 h1
    split at he
    · rename_i ds τ h2 h3
      cases h4 : g τ ds with
      | none => rw [h4] at he; cases he
      | some p =>
      obtain ⟨d, τ'⟩ := p
      rw [h4] at he; dsimp only at he
      split at he
      · rename_i ha
        cases he
        refine ⟨e, R, _, e1, h1, fun vs H1 S hrs => ?_⟩
        show spT K g (vs ++ []) H1 Q E
        rw [List.append_nil]
        subst hc
        cases vs with
        | nil => exact hrs.elim
        | cons v vs =>
          obtain ⟨hv, hrs⟩ := hrs
          have hv' : v = .ref c.t := hv
          subst hv'
          have htp : c.tp = true := by rw [← S.rel.tpc, h3]; rfl
          exact ⟨OO c σ e1.sl, c.t, vs, ds, τ, d, τ', S.rel.hidden, .inl (S.rel.ok.hot htp), rfl, rds_data hrs h2 ha, S.rel.tp τ h3, h4, fun v H' k T hd => q v H' (S.trans (Stp.tape S.rel htp k T)) hd⟩
      · cases he
    · cases he
  · cases he
theorem de_fnT {g : FTp} (F : FnOk X.prog X.w X.K X.mg X.base CX k f fd ps (spT X.K g)) (hr : Room k X.A) (hm : X.mg x = some (.ref f)) (hk : PySem.W.keepIn X.K (.ref f) = true) (hb : Binds X.K fd ps []) (hx : Passes CX X E)
    (ha : DA X (a :: as) fa) (hg : Gl X x := by rfl) (hdb : (x == ("__debug__" : Str)) = false := by decide) (he : starEach (a :: as) X.env = (false, eval a X.env) :: starEach as X.env := by rfl) (hpl : (backTo pos (starEach as X.env)).any (·.1) = false := by rfl) :
    DE X (.Call (.Name x p) (a :: as) [] pos) (xFnT g fa) :=
  ⟨fun c hc => pe_imp (pe_call F hr hg hm hk hb .nil hx (ha.pa c hc) hdb he hpl) fun _ _ _ q => xfnt_core hc q⟩
end

/-! ### a def by its body -/
/-- the value that a body hands back, as data -/
def outD (e : ES) : Out → Option D
  | .nx => some .none
  | .rt r => match r with
    | .d x => some x
    | .own i => (match e.sl[i]? with
      | some (.own xs) => some (.list xs)
      | some (.d x) => some x
      | _ => none)
    | .tape => none
  | .rtL xs => some (.list xs)
  | _ => none
def outL (e : ES) : Out → Option (List D)
  | .rt (.own i) => (match e.sl[i]? with
      | some (.own xs) => some xs
      | _ => none)
  | .rtL xs => some xs
  | _ => none
def startE (n : Nat) (ds : List D) (tp : Option Tp) : ES := ⟨ds.map Sl.d ++ List.replicate (n - ds.length) .un, tp⟩
def callP (g : FS) (n m : Nat) : FP := fun ds => if ds.length = m then (match g (startE n ds none) with
  | some (o, e) => outD e o
  | none => none) else none
def callL (g : FS) (n m : Nat) : FPL := fun ds => if ds.length = m then (match g (startE n ds none) with
  | some (o, e) => outL e o
  | none => none) else none
def startT (n : Nat) (ds : List D) (τ : Tp) : ES := ⟨.tape :: (ds.map Sl.d ++ List.replicate (n - (ds.length + 1)) .un), some τ⟩
def callT (g : FS) (n m : Nat) : FTp := fun τ ds => if ds.length + 1 = m then (match g (startT n ds τ) with
  | some (o, e) => (match outD e o, e.tp with
    | some d, some τ' => some (d, τ')
    | _, _ => none)
  | none => none) else none
section
variable {K : PySem.W.Frag} {H H0 : Hp} {O : Addr → Prop}
theorem start_get {N : List Str} {vs : List V} {i : Nat} {v : V} (h : vs[i]? = some v) : (start N vs)[i]? = some (some v) := by
  unfold L2.start
  have hi : i < vs.length := (List.getElem?_eq_some_iff.mp h).1
  rw [List.getElem?_append_left (by simpa using hi), List.getElem?_map, h]
  rfl
theorem startE_get {n : Nat} {ds : List D} {tp : Option Tp} {i : Nat} {s : Sl} (h : (startE n ds tp).sl[i]? = some s) : s = .un ∨ ∃ d, ds[i]? = some d ∧ s = .d d := by
  unfold startE at h
  dsimp only at h
  by_cases hi : i < ds.length
  · rw [List.getElem?_append_left (by simpa using hi), List.getElem?_map] at h
    cases q : ds[i]? with
    | none => rw [q] at h; cases h
    | some d => rw [q] at h; cases h; exact .inr ⟨d, rfl, rfl⟩
  · rw [List.getElem?_append_right (by simpa using hi), List.getElem?_replicate] at h
    split at h
    · cases h; exact .inl rfl
    · cases h
theorem rel_start {n : Nat} {vs : List V} {ds : List D} {N : List Str} (ho : ∀ a, O a → H a ≠ none) (hd : DqAll K (hid O H) vs ds) (hn : N.length = n) (hl : ds.length ≤ n) : Rel ⟨K, O, 0, false, H⟩ (start N vs) H (startE n ds none) := by
  have noown : ∀ (i : Nat) (xs : Bx), (startE n ds none).sl[i]? ≠ some xs.sl := fun i xs h => by
    rcases startE_get h with h | ⟨d, _, h⟩ <;> cases xs <;> cases h
  have eO : OO ⟨K, O, 0, false, H⟩ (start N vs) (startE n ds none).sl = O := funext fun a => propext ⟨fun q => by
    rcases q with q | ⟨i, xs, h1, _⟩
    · exact q
    · exact absurd h1 (noown i xs), fun q => .inl q⟩
  have hlen := dpAll_len hd
  refine ⟨?_, ⟨ho, fun z => by cases z⟩, rfl, fun a o h _ => h, fun i s hi => ?_, fun i j xs ys a h => absurd h (noown i xs), fun τ hτ => by cases hτ⟩
  · unfold L2.start startE
    dsimp only
    rw [List.length_append, List.length_map, List.length_replicate, List.length_append, List.length_map, List.length_replicate]
    omega
  · rcases startE_get hi with h | ⟨d, h1, h⟩
    · subst h; exact True.intro
    · subst h
      obtain ⟨v, h2, h3⟩ := dpAll_get hd h1
      refine ⟨v, start_get h2, ?_⟩
      rw [eO]; exact h3
theorem startT_get {n : Nat} {ds : List D} {τ : Tp} {i : Nat} {s : Sl} (h : (startT n ds τ).sl[i]? = some s) : s = .un ∨ (i = 0 ∧ s = .tape) ∨ ∃ d j, i = j + 1 ∧ ds[j]? = some d ∧ s = .d d := by
  unfold startT at h
  dsimp only at h
  cases i with
  | zero => simp at h; subst h; exact .inr (.inl ⟨rfl, rfl⟩)
  | succ j =>
    rw [List.getElem?_cons_succ] at h
    by_cases hi : j < ds.length
    · rw [List.getElem?_append_left (by simpa using hi), List.getElem?_map] at h
      cases q : ds[j]? with
      | none => rw [q] at h; cases h
      | some d => rw [q] at h; cases h; exact .inr (.inr ⟨d, j, rfl, q, rfl⟩)
    · rw [List.getElem?_append_right (by simpa using hi), List.getElem?_replicate] at h
      split at h
      · cases h; exact .inl rfl
      · cases h
theorem rel_startT {n : Nat} {t : Addr} {vs : List V} {ds : List D} {τ : Tp} {N : List Str} (ho : ∀ a, O a → H a ≠ none) (ht : O t) (hd : DqAll K (hid O H) vs ds) (hT : TapeAt K O H t τ) (hn : N.length = n) (hl : ds.length + 1 ≤ n) :
    Rel ⟨K, O, t, true, H⟩ (start N (.ref t :: vs)) H (startT n ds τ) := by
  have noown : ∀ (i : Nat) (xs : Bx), (startT n ds τ).sl[i]? ≠ some xs.sl := fun i xs h => by
    rcases startT_get h with h | ⟨_, h⟩ | ⟨d, _, _, _, h⟩ <;> cases xs <;> cases h
  have eO : OO ⟨K, O, t, true, H⟩ (start N (.ref t :: vs)) (startT n ds τ).sl = O := funext fun a => propext ⟨fun q => by
    rcases q with q | ⟨i, xs, h1, _⟩
    · exact q
    · exact absurd h1 (noown i xs), fun q => .inl q⟩
  have hlen := dpAll_len hd
  refine ⟨?_, ⟨ho, fun _ => ht⟩, rfl, fun a o h _ => h, fun i s hi => ?_, fun i j xs ys a h => absurd h (noown i xs), fun τ' hτ => ?_⟩
  · unfold L2.start startT
    dsimp only
    simp only [List.length_append, List.length_map, List.length_replicate, List.length_cons]
    omega
  · rcases startT_get hi with h | ⟨h0, h⟩ | ⟨d, j, hj, h1, h⟩
    · subst h; exact True.intro
    · subst h h0; exact start_get (vs := .ref t :: vs) (i := 0) rfl
    · subst h hj
      obtain ⟨v, h2, h3⟩ := dpAll_get hd h1
      refine ⟨v, start_get (vs := .ref t :: vs) (i := j + 1) (by simpa using h2), ?_⟩
      rw [eO]; exact h3
  · cases hτ
    show TapeAt K (OO ⟨K, O, t, true, H⟩ (start N (.ref t :: vs)) (startT n ds τ).sl) H t τ
    rw [eO]; exact hT
theorem hid_OO {c : Ct} {σ : Sg} {sl : List Sl} : Same (hid (OO c σ sl) H) (hid c.O H) := hid_same (fun a q => .inl (.inl q)) fun _ _ _ h => h
/-- how a body's end gives the answer -/
theorem end_ok {c : Ct} {Z : Ends} {o : Out} {e : ES} {d : D} (ok : c.Ok) (h : outD e o = some d) (qn : ∀ σ H', Rel c σ H' e → Dq c.K (hid c.O H') .non d → Z.nx σ H') (q : ∀ σ v H', Rel c σ H' e → Dq c.K (hid c.O H') v d → Z.rt v H') : SPost c Z e o := by
  cases o with
  | nx => cases h; exact fun σ H' R => qn σ H' R .non
  | bk => cases h
  | ct => cases h
  | rt r =>
    intro σ v H' R hr
    refine q σ v H' R ?_
    cases r with
    | d x => cases h; exact dp_mono hid_OO hr
    | tape => cases h
    | own i =>
      have hr' : σ[i]? = some (some v) := hr
      have h' : (match e.sl[i]? with
        | some (.own xs) => some (.list xs)
        | some (.d x) => some x
        | _ => none) = some d := h
      cases hs : e.sl[i]? with
      | none => rw [hs] at h'; cases h'
      | some s =>
        rw [hs] at h'
        have z := R.slots i s hs
        cases s with
        | own xs =>
          cases h'
          obtain ⟨a, vs, h1, h2, h3, h4⟩ := z
          rw [hr'] at h1; cases h1
          exact .lst ((hid_of (fun w => R.ok.out a w h2) h3)) (dpAll_mono hid_OO h4)
        | d x =>
          cases h'
          obtain ⟨v', h1, h2⟩ := z
          rw [hr'] at h1; cases h1
          exact dp_mono hid_OO h2
        | _ => cases h'
  | rtL xs =>
    cases h
    intro σ p vs H' h0 hp R hd
    refine q σ _ H' (R.unplus ok h0) (.lst ((hid_of (fun w => ok.out p w h0) hp)) (dpAll_mono ?_ hd))
    exact hid_same (fun a z => .inl (.inl (.inl z))) fun _ _ _ h => h
theorem endL_ok {c : Ct} {Z : Ends} {o : Out} {e : ES} {xs : List D} (ok : c.Ok) (h : outL e o = some xs)
    (q : ∀ σ p ws H', Rel c σ H' e → c.H0 p = none → H' p = some (.lst ws) → DqAll c.K (hid (fun a => c.O a ∨ a = p) H') ws xs → Z.rt (.ref p) H') : SPost c Z e o := by
  cases o with
  | nx => cases h
  | bk => cases h
  | ct => cases h
  | rt r =>
    intro σ v H' R hr
    cases r with
    | d x => cases h
    | tape => cases h
    | own i =>
      have hr' : σ[i]? = some (some v) := hr
      have h' : (match e.sl[i]? with
        | some (.own xs) => some xs
        | _ => none) = some xs := h
      cases hs : e.sl[i]? with
      | none => rw [hs] at h'; cases h'
      | some s =>
        rw [hs] at h'
        have z := R.slots i s hs
        cases s with
        | own ys =>
          cases h'
          obtain ⟨a, vs, h1, h2, h3, h4⟩ := z
          rw [hr'] at h1; cases h1
          refine q σ a vs H' R h2 h3 (dpAll_mono (hid_same (fun b z => ?_) fun _ _ _ h => h) h4)
          rcases z with z | z
          · exact .inl (.inl z)
          · subst z; exact .inl (.inr ⟨i, .l _, hs, hr'⟩)
        | _ => cases h'
  | rtL ys =>
    cases h
    intro σ p vs H' h0 hp R hd
    refine q σ p vs H' (R.unplus ok h0) h0 hp (dpAll_mono (hid_same (fun a z => .inl (.inl z)) fun _ _ _ h => h) hd)
end
section
variable {P : Program} {w : World} {K : PySem.W.Frag} {mg : Str → Option Value} {base : Heap} {x qual : Str} {params : Arguments} {body : List Stmt} {scope : Scope} {f : Addr} {fd : FuncData} {CX : CXT} {N ps : List Str} {k n m : Nat} {g : FS}
abbrev BodyOk (P : Program) (w : World) (K : PySem.W.Frag) (mg : Str → Option Value) (base : Heap) (CX : CXT) (N : List Str) (qual : Str) (scope : Scope) (f : Addr) (k : Nat) (body : List Stmt) (g : FS) : Prop :=
  ∀ (cdv : Value) (A : Around) (outer : List Env) (s : Shared) (H : Hp) (E : XK), Room k (A.deeper (envOfC qual scope s.heap.objs.size f cdv)) → DB (cxOf CX P w K mg base N qual scope f cdv A outer s H E).nox body g
theorem fn_P {dvs : List V} {kws : List (Str × V)} (F : FunD K x qual params body scope dvs kws f fd) (S : FnScope N ps scope) (hn : N.length = n) (hm : ps.length = m) (hb : BodyOk P w K mg base CX N qual scope f k body g) :
    FnOk P w K mg base CX (k + 1) f fd ps (spP K (callP g n m)) := by
  have hnm : m ≤ n := by have := congrArg List.length S.pre; rw [List.length_take] at this; omega
  refine F.ok S (fun vs H Q E h => ?_) (fun cdv A outer s H vs Q E hr h => ?_)
  · obtain ⟨O, ds, d, ho, hd, hf, _⟩ := h
    unfold callP at hf
    split at hf
    · rename_i hl; rw [dpAll_len hd, hl, hm]
    · cases hf
  · obtain ⟨O, ds, d, ho, hd, hf, q⟩ := h
    unfold callP at hf
    split at hf
    · rename_i hl
      cases hg : g (startE n ds none) with
      | none => rw [hg] at hf; cases hf
      | some p =>
        obtain ⟨o, e⟩ := p
        rw [hg] at hf
        have R := rel_start (K := K) (N := N) ho hd hn (by omega)
        refine ⟨_, PSs.nox ((hb cdv A outer s H E hr).pb ⟨K, O, 0, false, H⟩ rfl), _, R, o, e, hg, end_ok R.ok hf (fun σ H' R' hv => ?_) fun σ v H' R' hv => ?_⟩
        · exact q .non H' (fun a o h => R'.ext a o h fun z => by cases z) hv
        · exact q v H' (fun a o h => R'.ext a o h fun z => by cases z) hv
    · cases hf
theorem fn_L {dvs : List V} {kws : List (Str × V)} (F : FunD K x qual params body scope dvs kws f fd) (S : FnScope N ps scope) (hn : N.length = n) (hm : ps.length = m) (hb : BodyOk P w K mg base CX N qual scope f k body g) :
    FnOk P w K mg base CX (k + 1) f fd ps (spL K (callL g n m)) := by
  have hnm : m ≤ n := by have := congrArg List.length S.pre; rw [List.length_take] at this; omega
  refine F.ok S (fun vs H Q E h => ?_) (fun cdv A outer s H vs Q E hr h => ?_)
  · obtain ⟨O, ds, d, ho, hd, hf, _⟩ := h
    unfold callL at hf
    split at hf
    · rename_i hl; rw [dpAll_len hd, hl, hm]
    · cases hf
  · obtain ⟨O, ds, d, ho, hd, hf, q⟩ := h
    unfold callL at hf
    split at hf
    · rename_i hl
      cases hg : g (startE n ds none) with
      | none => rw [hg] at hf; cases hf
      | some p =>
        obtain ⟨o, e⟩ := p
        rw [hg] at hf
        have R := rel_start (K := K) (N := N) ho hd hn (by omega)
        refine ⟨_, PSs.nox ((hb cdv A outer s H E hr).pb ⟨K, O, 0, false, H⟩ rfl), _, R, o, e, hg, endL_ok R.ok hf fun σ p ws H' R' h0 hp hv => ?_⟩
        exact q p ws H' h0 hp (fun a o h => R'.ext a o h fun z => by cases z) hv
    · cases hf
theorem fn_T {dvs : List V} {kws : List (Str × V)} (F : FunD K x qual params body scope dvs kws f fd) (S : FnScope N ps scope) (hn : N.length = n) (hm : ps.length = m) (hb : BodyOk P w K mg base CX N qual scope f k body g) :
    FnOk P w K mg base CX (k + 1) f fd ps (spT K (callT g n m)) := by
  have hnm : m ≤ n := by have := congrArg List.length S.pre; rw [List.length_take] at this; omega
  refine F.ok S (fun vs H Q E h => ?_) (fun cdv A outer s H vs Q E hr h => ?_)
  · obtain ⟨O, t, vs', ds, τ, d, τ', ho, ht, rfl, hd, hT, hf, _⟩ := h
    unfold callT at hf
    split at hf
    · rename_i hl; rw [List.length_cons, dpAll_len hd, hl, hm]
    · cases hf
  · obtain ⟨O, t, vs', ds, τ, d, τ', ho, ht, rfl, hd, hT, hf, q⟩ := h
    unfold callT at hf
    split at hf
    · rename_i hl
      cases hg : g (startT n ds τ) with
      | none => rw [hg] at hf; cases hf
      | some p =>
        obtain ⟨o, e⟩ := p
        rw [hg] at hf; dsimp only at hf
        cases h1 : outD e o with
        | none => rw [h1] at hf; cases hf
        | some d' =>
        cases h2 : e.tp with
        | none => rw [h1, h2] at hf; cases hf
        | some τ2 =>
        rw [h1, h2] at hf
        cases hf
        have R := rel_startT (K := K) (N := N) ho ht hd hT hn (by omega)
        have fin : ∀ {σ : Sg} {H' : Hp}, Rel ⟨K, O, t, true, H⟩ σ H' e → (∀ a o, a ≠ t → H a = some o → H' a = some o) ∧ TapeAt K O H' t τ' := fun {σ H'} R' => by
          refine ⟨fun a o n h => R'.ext a o h fun _ => n, ?_⟩
          obtain ⟨l, g1, g2⟩ := R'.tp τ' h2
          exact ⟨l, g1, dp_mono hid_OO g2⟩
        refine ⟨_, PSs.nox ((hb cdv A outer s H E hr).pb ⟨K, O, t, true, H⟩ rfl), _, R, o, e, hg, end_ok R.ok h1 (fun σ H' R' hv => ?_) fun σ v H' R' hv => ?_⟩
        · exact q .non H' (fin R').1 (fin R').2 hv
        · exact q v H' (fin R').1 (fin R').2 hv
    · cases hf
end
end DD

namespace DD
open PySem PySem.Spec PyProof.Rows L2

/-! ### operations on data: ==, <, in .. -/
def rDD (K : PySem.W.Frag) (g : D → D → Option D) : R2 := fun x y H Q => ∃ d e r, Dq K H x d ∧ Dq K H y e ∧ g d e = some (.bool r) ∧ Q (.bl r) H
theorem opd_bool {K : PySem.W.Frag} {g : D → D → Option D} (hb : ∀ d e r, g d e = some r → ∃ b, r = .bool b) : OpD K (rDD K g) g := by
  intro O H x y dx dy d Q ho hx hy hg q
  obtain ⟨b, rfl⟩ := hb _ _ _ hg
  exact ⟨dx, dy, b, hx.dp, hy.dp, hg, q _ H (Same.refl H) (.bl b)⟩
def shal (d : D) : Bool := d.plain && decide (d.depth ≤ 60)
def gEq (a b : D) : Option D := if (shal a && shal b) = true then some (.bool (PyData.eqv a b)) else none
def gNe (a b : D) : Option D := if (shal a && shal b) = true then some (.bool (!PyData.eqv a b)) else none
theorem shal_of {a b : D} (h : (shal a && shal b) = true) : a.plain = true ∧ b.plain = true ∧ a.depth ≤ 60 ∧ b.depth ≤ 60 := by
  rw [Bool.and_eq_true] at h
  unfold shal at h
  rw [Bool.and_eq_true, Bool.and_eq_true] at h
  exact ⟨h.1.1, h.2.1, of_decide_eq_true h.1.2, of_decide_eq_true h.2.2⟩
section
variable {X : Cx}
theorem op_eqP (hu : X.A.units + 64 < cLine) : OpR X (compareOp .Eq) (rDD X.K gEq) := by
  intro pins s σ H x y v u Q I rx ry h
  obtain ⟨d, e, r, hd, he, hg, q⟩ := h
  unfold gEq at hg
  split at hg
  · rename_i hs
    cases hg
    obtain ⟨h1, h2, h3, h4⟩ := shal_of hs
    obtain ⟨as, r1⟩ := Dp.reads I d x v (hd.dp h1) rx
    obtain ⟨bs, r2⟩ := Dp.reads I e y u (he.dp h2) ry
    exact PySem.SeqAt.eq_plain r1 r2 h1 h2 (by have := Nat.min_le_left d.depth e.depth; omega) ⟨.bl _, H, I, rfl, q⟩
  · cases hg
theorem op_neP (hu : X.A.units + 64 < cLine) : OpR X (compareOp .NotEq) (rDD X.K gNe) := by
  intro pins s σ H x y v u Q I rx ry h
  obtain ⟨d, e, r, hd, he, hg, q⟩ := h
  unfold gNe at hg
  split at hg
  · rename_i hs
    cases hg
    obtain ⟨h1, h2, h3, h4⟩ := shal_of hs
    obtain ⟨as, r1⟩ := Dp.reads I d x v (hd.dp h1) rx
    obtain ⟨bs, r2⟩ := Dp.reads I e y u (he.dp h2) ry
    exact PySem.SeqAt.ne_plain r1 r2 h1 h2 (by have := Nat.min_le_left d.depth e.depth; omega) ⟨.bl _, H, I, rfl, q⟩
  · cases hg
end
theorem gEq_bool : ∀ d e r, gEq d e = some r → ∃ b, r = .bool b := by
  intro d e r h; unfold gEq at h; split at h
  · cases h; exact ⟨_, rfl⟩
  · cases h
theorem gNe_bool : ∀ d e r, gNe d e = some r → ∃ b, r = .bool b := by
  intro d e r h; unfold gNe at h; split at h
  · cases h; exact ⟨_, rfl⟩
  · cases h
/-- order -/
def isNoneD : D → Bool
  | .none => true
  | _ => false
def cmpOk (a b : D) : Bool := PySem.W.alike a b && !isNoneD a && (decide (a.depth ≤ 60) && (a.plain && b.plain))
def gLt (a b : D) : Option D := if cmpOk a b = true then some (.bool (PySem.W.dataLt a b)) else none
def gGt (a b : D) : Option D := if cmpOk a b = true then some (.bool (PySem.W.dataLt b a)) else none
def gLe (a b : D) : Option D := if cmpOk a b = true then some (.bool (!PySem.W.dataLt b a)) else none
def gGe (a b : D) : Option D := if cmpOk a b = true then some (.bool (!PySem.W.dataLt a b)) else none
theorem cmpOk_of {a b : D} (h : cmpOk a b = true) : PySem.W.alike a b = true ∧ a ≠ .none ∧ a.depth ≤ 60 ∧ a.plain = true ∧ b.plain = true := by
  unfold cmpOk at h
  rw [Bool.and_eq_true, Bool.and_eq_true, Bool.and_eq_true, Bool.and_eq_true] at h
  refine ⟨h.1.1, fun z => ?_, of_decide_eq_true h.2.1, h.2.2.1, h.2.2.2⟩
  rw [z] at h; exact Bool.noConfusion h.1.2
section
variable {X : Cx}
theorem op_ltP (hu : X.A.units + 64 < cLine) : OpR X (compareOp .Lt) (rDD X.K gLt) := by
  intro pins s σ H x y v u Q I rx ry h
  obtain ⟨d, e, r, hd, he, hg, q⟩ := h
  unfold gLt at hg
  split at hg
  · rename_i hs
    cases hg
    obtain ⟨h1, h2, h3, pd_, pe_⟩ := cmpOk_of hs
    obtain ⟨as, r1⟩ := Dp.reads I d x v (hd.dp pd_) rx
    obtain ⟨bs, r2⟩ := Dp.reads I e y u (he.dp pe_) ry
    exact PySem.W.lt_data r1 r2 h1 h2 (by have := Nat.min_le_left d.depth e.depth; omega) ⟨.bl _, H, I, rfl, q⟩
  · cases hg
theorem op_gtP (hu : X.A.units + 64 < cLine) : OpR X (compareOp .Gt) (rDD X.K gGt) := by
  intro pins s σ H x y v u Q I rx ry h
  obtain ⟨d, e, r, hd, he, hg, q⟩ := h
  unfold gGt at hg
  split at hg
  · rename_i hs
    cases hg
    obtain ⟨h1, h2, h3, pd_, pe_⟩ := cmpOk_of hs
    obtain ⟨as, r1⟩ := Dp.reads I d x v (hd.dp pd_) rx
    obtain ⟨bs, r2⟩ := Dp.reads I e y u (he.dp pe_) ry
    exact PySem.W.gt_data r1 r2 h1 h2 (by have := Nat.min_le_left d.depth e.depth; omega) ⟨.bl _, H, I, rfl, q⟩
  · cases hg
theorem op_leP (hu : X.A.units + 64 < cLine) : OpR X (compareOp .LtE) (rDD X.K gLe) := by
  intro pins s σ H x y v u Q I rx ry h
  obtain ⟨d, e, r, hd, he, hg, q⟩ := h
  unfold gLe at hg
  split at hg
  · rename_i hs
    cases hg
    obtain ⟨h1, h2, h3, pd_, pe_⟩ := cmpOk_of hs
    obtain ⟨as, r1⟩ := Dp.reads I d x v (hd.dp pd_) rx
    obtain ⟨bs, r2⟩ := Dp.reads I e y u (he.dp pe_) ry
    exact PySem.W.le_data r1 r2 h1 h2 (by have := Nat.min_le_left d.depth e.depth; omega) ⟨.bl _, H, I, rfl, q⟩
  · cases hg
theorem op_geP (hu : X.A.units + 64 < cLine) : OpR X (compareOp .GtE) (rDD X.K gGe) := by
  intro pins s σ H x y v u Q I rx ry h
  obtain ⟨d, e, r, hd, he, hg, q⟩ := h
  unfold gGe at hg
  split at hg
  · rename_i hs
    cases hg
    obtain ⟨h1, h2, h3, pd_, pe_⟩ := cmpOk_of hs
    obtain ⟨as, r1⟩ := Dp.reads I d x v (hd.dp pd_) rx
    obtain ⟨bs, r2⟩ := Dp.reads I e y u (he.dp pe_) ry
    exact PySem.W.ge_data r1 r2 h1 h2 (by have := Nat.min_le_left d.depth e.depth; omega) ⟨.bl _, H, I, rfl, q⟩
  · cases hg
end
theorem gLt_bool : ∀ d e r, gLt d e = some r → ∃ b, r = .bool b := by
  intro d e r h; unfold gLt at h; split at h
  · cases h; exact ⟨_, rfl⟩
  · cases h
theorem gGt_bool : ∀ d e r, gGt d e = some r → ∃ b, r = .bool b := by
  intro d e r h; unfold gGt at h; split at h
  · cases h; exact ⟨_, rfl⟩
  · cases h
theorem gLe_bool : ∀ d e r, gLe d e = some r → ∃ b, r = .bool b := by
  intro d e r h; unfold gLe at h; split at h
  · cases h; exact ⟨_, rfl⟩
  · cases h
theorem gGe_bool : ∀ d e r, gGe d e = some r → ∃ b, r = .bool b := by
  intro d e r h; unfold gGe at h; split at h
  · cases h; exact ⟨_, rfl⟩
  · cases h
/-- x in c -/
def hasD (x : D) : D → Option Bool
  | .list xs => if (shal x && shal (.list xs)) = true then some (xs.any fun y => PyData.eqv y x) else none
  | .tuple xs => if (shal x && shal (.tuple xs)) = true then some (xs.any fun y => PyData.eqv y x) else none
  | .str z => match x with
    | .str i => some (!(Builtin.Str.occurrences z i 0 z.length 1).isEmpty)
    | _ => none
  | _ => none
theorem hasD_plain {x c : D} {b : Bool} (h : hasD x c = some b) : x.plain = true ∧ c.plain = true := by
  unfold hasD at h
  split at h
  · split at h
    · rename_i hs
      obtain ⟨h1, h2, _⟩ := shal_of hs
      exact ⟨h1, h2⟩
    · cases h
  · split at h
    · rename_i hs
      obtain ⟨h1, h2, _⟩ := shal_of hs
      exact ⟨h1, h2⟩
    · cases h
  · split at h
    · exact ⟨by simp [PyData.plain], by simp [PyData.plain]⟩
    · cases h
  · cases h
def gIn (x c : D) : Option D := (hasD x c).map fun b => .bool b
def gNotIn (x c : D) : Option D := (hasD x c).map fun b => .bool (!b)
theorem gIn_bool : ∀ d e r, gIn d e = some r → ∃ b, r = .bool b := by
  intro d e r h; unfold gIn at h
  obtain ⟨b, _, rfl⟩ := Option.map_eq_some_iff.mp h; exact ⟨b, rfl⟩
theorem gNotIn_bool : ∀ d e r, gNotIn d e = some r → ∃ b, r = .bool b := by
  intro d e r h; unfold gNotIn at h
  obtain ⟨b, _, rfl⟩ := Option.map_eq_some_iff.mp h; exact ⟨!b, rfl⟩
theorem depth_list {xs : List D} {n : Nat} (h : (PyData.list xs).depth ≤ n) : PyData.depthAll xs + 1 ≤ n := by simpa [PyData.depth] using h
theorem depth_tuple {xs : List D} {n : Nat} (h : (PyData.tuple xs).depth ≤ n) : PyData.depthAll xs + 1 ≤ n := by simpa [PyData.depth] using h
section
variable {X : Cx}
theorem op_inP (hu : X.A.units + 64 < cLine) : OpR X (compareOp .In) (rDD X.K gIn) := by
  intro pins s σ H x y v u Q I rx ry h
  obtain ⟨d, e, r, hd, he, hg, q⟩ := h
  obtain ⟨b, hb, hr⟩ := Option.map_eq_some_iff.mp hg
  cases hr
  obtain ⟨pd_, pe_⟩ := hasD_plain hb
  obtain ⟨as, r1⟩ := Dp.reads I d x v (hd.dp pd_) rx
  obtain ⟨bs, r2⟩ := Dp.reads I e y u (he.dp pe_) ry
  cases e with
  | list xs =>
    simp only [hasD] at hb
    split at hb
    · rename_i hs
      cases hb
      obtain ⟨h1, h2, h3, h4⟩ := shal_of hs
      have h5 := depth_list h4
      exact PySem.SeqAt.in_list_data r2 r1 (by simpa [PyData.plain] using h2) h1 (by have := Nat.min_le_left (PyData.depthAll xs) d.depth; omega) ⟨.bl _, H, I, rfl, q⟩
    · cases hb
  | tuple xs =>
    simp only [hasD] at hb
    split at hb
    · rename_i hs
      cases hb
      obtain ⟨h1, h2, h3, h4⟩ := shal_of hs
      have h5 := depth_tuple h4
      exact PySem.SeqAt.in_tuple_data r2 r1 (by simpa [PyData.plain] using h2) h1 (by have := Nat.min_le_left (PyData.depthAll xs) d.depth; omega) ⟨.bl _, H, I, rfl, q⟩
    · cases hb
  | str z =>
    simp only [hasD] at hb
    cases d with
    | str i =>
      cases hb
      cases hd
      cases he
      obtain ⟨t, rfl⟩ := rx
      obtain ⟨t', rfl⟩ := ry
      exact in_str ⟨.bl _, H, I, rfl, q⟩
    | _ => cases hb
  | _ => simp [hasD] at hb
theorem op_notInP (hu : X.A.units + 64 < cLine) : OpR X (compareOp .NotIn) (rDD X.K gNotIn) := by
  intro pins s σ H x y v u Q I rx ry h
  obtain ⟨d, e, r, hd, he, hg, q⟩ := h
  obtain ⟨b, hb, hr⟩ := Option.map_eq_some_iff.mp hg
  cases hr
  obtain ⟨pd_, pe_⟩ := hasD_plain hb
  obtain ⟨as, r1⟩ := Dp.reads I d x v (hd.dp pd_) rx
  obtain ⟨bs, r2⟩ := Dp.reads I e y u (he.dp pe_) ry
  cases e with
  | list xs =>
    simp only [hasD] at hb
    split at hb
    · rename_i hs
      cases hb
      obtain ⟨h1, h2, h3, h4⟩ := shal_of hs
      have h5 := depth_list h4
      exact PySem.SeqAt.notIn_list_data r2 r1 (by simpa [PyData.plain] using h2) h1 (by have := Nat.min_le_left (PyData.depthAll xs) d.depth; omega) ⟨.bl _, H, I, rfl, q⟩
    · cases hb
  | tuple xs =>
    simp only [hasD] at hb
    split at hb
    · rename_i hs
      cases hb
      obtain ⟨h1, h2, h3, h4⟩ := shal_of hs
      have h5 := depth_tuple h4
      exact PySem.SeqAt.notIn_tuple_data r2 r1 (by simpa [PyData.plain] using h2) h1 (by have := Nat.min_le_left (PyData.depthAll xs) d.depth; omega) ⟨.bl _, H, I, rfl, q⟩
    · cases hb
  | str z =>
    simp only [hasD] at hb
    cases d with
    | str i =>
      cases hb
      cases hd
      cases he
      obtain ⟨t, rfl⟩ := rx
      obtain ⟨t', rfl⟩ := ry
      exact notIn_str ⟨.bl _, H, I, rfl, q⟩
    | _ => cases hb
  | _ => simp [hasD] at hb
end
/-- is None, is not None; is True .. of truth values -/
def gIs : D → D → Option D
  | a, .none => some (.bool (isNoneD a))
  | .bool a, .bool b => some (.bool (decide (a = b)))
  | _, _ => none
def gIsNot (a b : D) : Option D := match gIs a b with
  | some (.bool r) => some (.bool (!r))
  | _ => none
theorem gIs_bool : ∀ d e r, gIs d e = some r → ∃ b, r = .bool b := by
  intro d e r h; unfold gIs at h; split at h
  · cases h; exact ⟨_, rfl⟩
  · cases h; exact ⟨_, rfl⟩
  · cases h
theorem gIsNot_bool : ∀ d e r, gIsNot d e = some r → ∃ b, r = .bool b := by
  intro d e r h; unfold gIsNot at h; split at h
  · cases h; exact ⟨_, rfl⟩
  · cases h
theorem isNone_dp {K : PySem.W.Frag} {H : Hp} {v : V} {d : D} (h : Dq K H v d) : decide (v = .non) = isNoneD d := by
  cases h <;> simp [isNoneD]
section
variable {X : Cx}
theorem op_isP : OpR X (compareOp .Is) (rDD X.K gIs) := by
  intro pins s σ H x y v u Q I rx ry h
  obtain ⟨d, e, r, hd, he, hg, q⟩ := h
  cases e with
  | none =>
    cases he
    have hg' : some (PyData.bool (isNoneD d)) = some (.bool r) := by cases d <;> exact hg
    cases hg'
    exact op_isN pins s σ H x .non v u Q I rx ry ⟨rfl, by rw [isNone_dp hd]; exact q⟩
  | bool b =>
    cases d with
    | bool a =>
      cases hd
      cases he
      cases hg
      exact op_is_bl pins s σ H _ _ v u Q I rx ry ⟨a, b, rfl, rfl, q⟩
    | _ => cases hg
  | _ => cases d <;> cases hg
theorem op_isNotP : OpR X (compareOp .IsNot) (rDD X.K gIsNot) := by
  intro pins s σ H x y v u Q I rx ry h
  obtain ⟨d, e, r, hd, he, hg, q⟩ := h
  cases e with
  | none =>
    cases he
    have hg' : some (PyData.bool (!isNoneD d)) = some (.bool r) := by cases d <;> exact hg
    cases hg'
    exact op_notN pins s σ H x .non v u Q I rx ry ⟨rfl, by rw [isNone_dp hd]; exact q⟩
  | bool b =>
    cases d with
    | bool a =>
      cases hd
      cases he
      cases hg
      exact op_isnot_bl pins s σ H _ _ v u Q I rx ry ⟨a, b, rfl, rfl, q⟩
    | _ => cases hg
  | _ => cases d <;> cases hg
end

/-! ### arithmetic, + of texts, tuples, lists -/
def gAdd : D → D → Option D
  | .int a, .int b => some (.int (a + b))
  | .str a, .str b => if a.length + b.length ≤ 16000000 then some (.str (a ++ b)) else none
  | .tuple a, .tuple b => if a.length + b.length ≤ 16000000 then some (.tuple (a ++ b)) else none
  | _, _ => none
def gAddL : D → D → Option (List D)
  | .list a, .list b => if a.length + b.length ≤ 16000000 then some (a ++ b) else none
  | _, _ => none
def rAddP (K : PySem.W.Frag) : R2 := fun x y H Q => rI0 (fun i j => .int (i + j)) x y H Q ∨ (∃ i j, x = .str i ∧ y = .str j ∧ i.length + j.length ≤ sizeLine ∧ Q (.str (i ++ j)) H) ∨ rCatA K x y H Q
section
variable {X : Cx}
theorem op_addP : OpR X (binaryOp .Add) (rAddP X.K) := op_add.or (op_add_str.or op_catA)
end
end DD

namespace DD
open PySem PySem.Spec PyProof.Rows L2
section
variable {K : PySem.W.Frag}
theorem same_upd {H : Hp} {p : Addr} {o : HO} (hp : H p = none) : Same H (upd H p o) := fun a u z => by rw [upd_ne (ne_of_none z hp)]; exact z
/-- a new tuple -/
theorem new_tup {O : Addr → Prop} {H : Hp} {p : Addr} {vs : List V} {ds : List D} (ho : ∀ a, O a → H a ≠ none) (hp : H p = none) (h : DqAll K (hid O H) vs ds) : Dq K (hid O (upd H p (.tup vs))) (.ref p) (.tuple ds) :=
  .tup (.of (hid_of (fun z => ho p z hp) upd_same)) (dpAll_mono (hid_same0 (same_upd hp)) h)
theorem opd_add : OpD K (rAddP K) gAdd := by
  intro O H x y dx dy d Q ho hx hy hg q
  cases dx <;> cases dy <;> simp only [gAdd, reduceCtorEq] at hg
  · cases hg
    exact .inl ⟨_, _, hx.int, hy.int, q _ H (Same.refl H) (.int _)⟩
  · split at hg
    · rename_i hl
      cases hg
      exact .inr (.inl ⟨_, _, hx.str, hy.str, big16 hl, q _ H (Same.refl H) (.str _)⟩)
    · cases hg
  · rename_i xs ys
    split at hg
    · rename_i hl
      cases hg
      obtain ⟨a, vs, rfl, h1, h2⟩ := hx.tup
      obtain ⟨b, ws, rfl, h3, h4⟩ := hy.tup
      have l1 := dpAll_len h2
      have l2 := dpAll_len h4
      refine .inr (.inr ⟨a, b, vs, ws, rfl, rfl, h1, h3, by rw [l1, l2]; exact big16 hl, fun e => ?_, fun e1 e2 => ?_, fun e1 e2 p hp => ?_⟩)
      · subst e
        cases h2
        exact q _ H (Same.refl H) (hy.data (fun _ z => nomatch z) fun _ z => nomatch z)
      · subst e2
        cases h4
        rw [List.append_nil] at q
        exact q _ H (Same.refl H) (hx.data (fun _ z => nomatch z) fun _ z => nomatch z)
      · exact q _ _ (same_upd hp) (new_tup ho hp (dpAll_app h2 h4))
    · cases hg
theorem opl_add : OpL K rCat gAddL := by
  intro O H x y dx dy d Q ho hx hy hg q
  cases dx <;> cases dy <;> simp only [gAddL, reduceCtorEq] at hg
  split at hg
  · rename_i hl
    cases hg
    obtain ⟨a, vs, rfl, h1, h2⟩ := hx.list
    obtain ⟨b, ws, rfl, h3, h4⟩ := hy.list
    refine ⟨a, b, vs, ws, rfl, rfl, h1, h3, by rw [dpAll_len h2, dpAll_len h4]; exact big16 hl, fun p hp => ?_⟩
    exact q p _ _ hp upd_same (same_upd hp) (dpAll_app h2 h4)
  · cases hg
def gSub : D → D → Option D
  | .int a, .int b => some (.int (a - b))
  | _, _ => none
theorem opd_sub : OpD K (rI0 fun i j => .int (i - j)) gSub := by
  intro O H x y dx dy d Q ho hx hy hg q
  cases dx <;> cases dy <;> simp only [gSub, reduceCtorEq] at hg
  cases hg
  exact ⟨_, _, hx.int, hy.int, q _ H (Same.refl H) (.int _)⟩
def smallI (i : Int) : Bool := decide (-18446744073709551616 < i ∧ i < 18446744073709551616)
def gMul : D → D → Option D
  | .int a, .int b => if (smallI a || smallI b) = true then some (.int (a * b)) else none
  | _, _ => none
theorem cmul_of {a b : Int} (h : (smallI a || smallI b) = true) : CMul a b := by
  unfold smallI at h
  rw [Bool.or_eq_true, decide_eq_true_eq, decide_eq_true_eq] at h
  have e : (2 : Int) ^ 64 = 18446744073709551616 := by decide
  unfold CMul
  rw [e]
  omega
theorem opd_mul : OpD K (rI CMul fun i j => .int (i * j)) gMul := by
  intro O H x y dx dy d Q ho hx hy hg q
  cases dx <;> cases dy <;> simp only [gMul, reduceCtorEq] at hg
  split at hg
  · rename_i hc
    cases hg
    exact ⟨_, _, hx.int, hy.int, cmul_of hc, q _ H (Same.refl H) (.int _)⟩
  · cases hg
def gFdiv : D → D → Option D
  | .int a, .int b => if 0 < b ∧ b < 18446744073709551616 then some (.int (a / b)) else none
  | _, _ => none
theorem opd_fdiv : OpD K (rI CDivW fun i j => .int (i / j)) gFdiv := by
  intro O H x y dx dy d Q ho hx hy hg q
  cases dx <;> cases dy <;> simp only [gFdiv, reduceCtorEq] at hg
  split at hg
  · rename_i hc
    cases hg
    refine ⟨_, _, hx.int, hy.int, wide_div (b := 64) hc.1 ?_ (by decide : 0 < 64) (by decide : 64 ≤ 9000), q _ H (Same.refl H) (.int _)⟩
    have e : (2 : Nat) ^ 64 = 18446744073709551616 := by decide
    rw [e]
    omega
  · cases hg
def gMod : D → D → Option D
  | .int a, .int b => if 0 < b then some (.int (a % b)) else none
  | _, _ => none
theorem opd_mod : OpD K (rI (fun _ j => 0 < j) fun i j => .int (i % j)) gMod := by
  intro O H x y dx dy d Q ho hx hy hg q
  cases dx <;> cases dy <;> simp only [gMod, reduceCtorEq] at hg
  split at hg
  · rename_i hc
    cases hg
    exact ⟨_, _, hx.int, hy.int, hc, q _ H (Same.refl H) (.int _)⟩
  · cases hg
def gPow : D → D → Option D
  | .int a, .int b => if 0 ≤ b ∧ b ≤ 1000 ∧ a.natAbs < 1000000 then some (.int (a ^ b.toNat)) else none
  | _, _ => none
theorem opd_pow : OpD K (rI CPow fun i j => .int (i ^ j.toNat)) gPow := by
  intro O H x y dx dy d Q ho hx hy hg q
  cases dx <;> cases dy <;> simp only [gPow, reduceCtorEq] at hg
  split at hg
  · rename_i hc
    cases hg
    refine ⟨_, _, hx.int, hy.int, ⟨hc.1, by omega, ?_⟩, q _ H (Same.refl H) (.int _)⟩
    have e : (2 : Nat) ^ 64 = 18446744073709551616 := by decide
    rw [e]; omega
  · cases hg
def gNeg : D → Option D
  | .int a => some (.int (-a))
  | _ => none
theorem und_neg : UnD K (rU fun i => .int (-i)) gNeg := by
  intro O H x dx d Q ho hx hg q
  cases dx <;> simp only [gNeg, reduceCtorEq] at hg
  cases hg
  exact ⟨_, hx.int, q _ H (Same.refl H) (.int _)⟩
/-- list * int -/
def gRepL : D → D → Option (List D)
  | .list a, .int k => if k < 1000000 ∧ -1000000 < k ∧ a.length * k.toNat ≤ 16000000 then some (List.replicate k.toNat a).flatten else none
  | _, _ => none
theorem dpAll_rep {H : Hp} {vs : List V} {ds : List D} (h : DqAll K H vs ds) : ∀ k, DqAll K H (List.replicate k vs).flatten (List.replicate k ds).flatten
  | 0 => .nil
  | k + 1 => by rw [List.replicate_succ, List.replicate_succ, List.flatten_cons, List.flatten_cons]; exact dpAll_app h (dpAll_rep h k)
theorem opl_rep : OpL K rRep gRepL := by
  intro O H x y dx dy d Q ho hx hy hg q
  cases dx <;> cases dy <;> simp only [gRepL, reduceCtorEq] at hg
  split at hg
  · rename_i hl
    cases hg
    obtain ⟨a, vs, rfl, h1, h2⟩ := hx.list
    refine ⟨a, _, vs, rfl, hy.int, h1, by omega, by omega, by rw [dpAll_len h2]; exact big16 hl.2.2, fun p hp => ?_⟩
    exact q p _ _ hp upd_same (same_upd hp) (dpAll_rep h2 _)
  · cases hg

/-! ### built-in calls -/
def gLen : List D → Option D
  | [.list xs] => some (.int xs.length)
  | [.tuple xs] => some (.int xs.length)
  | [.str z] => if z.length ≤ 16000000 then some (.int z.length) else none
  | _ => none
theorem rb1 {O : Addr → Prop} {H : Hp} {vs : List V} {d : D} (h : RbAll K O H vs [d]) : ∃ v, vs = [v] ∧ Rb K O H v d := by
  match vs, h with
  | [v], h => exact ⟨v, rfl, h.1⟩
  | [], h => exact h.elim
  | _ :: _ :: _, h => exact h.2.elim
theorem rb2 {O : Addr → Prop} {H : Hp} {vs : List V} {d e : D} (h : RbAll K O H vs [d, e]) : ∃ v u, vs = [v, u] ∧ Rb K O H v d ∧ Rb K O H u e := by
  match vs, h with
  | [v, u], h => exact ⟨v, u, rfl, h.1, h.2.1⟩
  | [], h => exact h.elim
  | [_], h => exact h.2.elim
  | _ :: _ :: _ :: _, h => exact h.2.2.elim
theorem calld_len : CallD K (fun xs H Q => ∃ x n, xs = [x] ∧ LenV K x H n ∧ Q (.int n) H) gLen := by
  intro O H xs ds d Q ho h hg q
  unfold gLen at hg
  split at hg
  · cases hg
    obtain ⟨v, rfl, hv⟩ := rb1 h
    obtain ⟨a, vs, rfl, h1, h2⟩ := hv.list
    refine ⟨_, _, rfl, .inl ⟨vs, .of h1, rfl⟩, ?_⟩
    rw [dpAll_len h2]
    exact q _ H (Same.refl H) (.int _)
  · cases hg
    obtain ⟨v, rfl, hv⟩ := rb1 h
    obtain ⟨a, vs, rfl, h1, h2⟩ := hv.tup
    refine ⟨_, _, rfl, .inr ⟨vs, h1, rfl⟩, ?_⟩
    rw [dpAll_len h2]
    exact q _ H (Same.refl H) (.int _)
  · split at hg
    · rename_i hl
      cases hg
      obtain ⟨v, rfl, hv⟩ := rb1 h
      have := hv.str
      subst this
      exact ⟨_, _, rfl, ⟨big16 hl, rfl⟩, q _ H (Same.refl H) (.int _)⟩
    · cases hg
  · cases hg
/-- list(x) -/
def gListL : List D → Option (List D)
  | [.list xs] => some xs
  | [.tuple xs] => some xs
  | _ => none
theorem calll_list : CallL K (fun xs H Q => ∃ p ys, xs = [.ref p] ∧ (SqL K H p ys ∨ SqT K H p ys) ∧ ∀ l, H l = none → Q (.ref l) (upd H l (.lst ys))) gListL := by
  intro O H xs ds ys Q ho h hg q
  unfold gListL at hg
  split at hg
  · cases hg
    obtain ⟨v, rfl, hv⟩ := rb1 h
    obtain ⟨a, vs, rfl, h1, h2⟩ := hv.list
    exact ⟨a, vs, rfl, .inl (.of h1), fun p hp => q p _ _ hp upd_same (same_upd hp) h2⟩
  · cases hg
    obtain ⟨v, rfl, hv⟩ := rb1 h
    obtain ⟨a, vs, rfl, h1, h2⟩ := hv.tup
    exact ⟨a, vs, rfl, .inr h1, fun p hp => q p _ _ hp upd_same (same_upd hp) h2⟩
  · cases hg
/-- tuple(x) -/
def gTuple : List D → Option D
  | [.list xs] => some (.tuple xs)
  | [.tuple xs] => some (.tuple xs)
  | _ => none
theorem calld_tuple : CallD K (fun xs H Q => ∃ p ys, xs = [.ref p] ∧ ((SqL K H p ys ∧ ∀ l, H l = none → Q (.ref l) (upd H l (.tup ys))) ∨ (SqT K H p ys ∧ Q (.ref p) H))) gTuple := by
  intro O H xs ds ys Q ho h hg q
  unfold gTuple at hg
  split at hg
  · cases hg
    obtain ⟨v, rfl, hv⟩ := rb1 h
    obtain ⟨a, vs, rfl, h1, h2⟩ := hv.list
    exact ⟨a, vs, rfl, .inl ⟨.of h1, fun p hp => q _ _ (same_upd hp) (new_tup ho hp h2)⟩⟩
  · cases hg
    obtain ⟨v, rfl, hv⟩ := rb1 h
    obtain ⟨a, vs, rfl, h1, h2⟩ := hv.tup
    exact ⟨a, vs, rfl, .inr ⟨h1, q _ H (Same.refl H) (hv.data (fun _ z => nomatch z) fun _ z => nomatch z)⟩⟩
  · cases hg
/-- ints of data -/
def intsD : List D → Option (List Int)
  | [] => some []
  | .int i :: r => (intsD r).map (i :: ·)
  | _ :: _ => none
theorem intsD_map : ∀ ns : List Int, intsD (ns.map .int) = some ns
  | [] => rfl
  | n :: r => by show (intsD (r.map .int)).map (n :: ·) = _; rw [intsD_map r]; rfl
theorem intsD_inv : ∀ {ds : List D} {ns : List Int}, intsD ds = some ns → ds = ns.map .int
  | [], _, h => by cases h; rfl
  | .int i :: r, ns, h => by
    obtain ⟨ms, h1, rfl⟩ := Option.map_eq_some_iff.mp (show (intsD r).map (i :: ·) = some ns from h)
    rw [intsD_inv h1]; rfl
  | .none :: _, _, h => by cases h
  | .bool _ :: _, _, h => by cases h
  | .str _ :: _, _, h => by cases h
  | .list _ :: _, _, h => by cases h
  | .tuple _ :: _, _, h => by cases h
  | .dict _ :: _, _, h => by cases h
def gSum : List D → Option D
  | [.list xs] => (intsD xs).map fun ns => .int ns.sum
  | [.tuple xs] => (intsD xs).map fun ns => .int ns.sum
  | _ => none
/-- sum of a list, a tuple of ints -/
def rSumA (K : PySem.W.Frag) : List V → Hp → VK → Prop := fun vs H Q => ∃ (a : Addr) (ns : List Int), vs = [V.ref a] ∧ (SqL K H a (ns.map V.int) ∨ SqT K H a (ns.map V.int)) ∧ Q (.int ns.sum) H
theorem calld_sum : CallD K (rSumA K) gSum := by
  intro O H xs ds ys Q ho h hg q
  unfold gSum at hg
  split at hg
  · obtain ⟨ns, h1, rfl⟩ := Option.map_eq_some_iff.mp hg
    have := intsD_inv h1
    subst this
    obtain ⟨v, rfl, hv⟩ := rb1 h
    obtain ⟨a, vs, rfl, h1, h2⟩ := hv.list
    have := dpAll_ints_inv h2
    subst this
    exact ⟨a, ns, rfl, .inl (.of h1), q _ H (Same.refl H) (.int _)⟩
  · obtain ⟨ns, h1, rfl⟩ := Option.map_eq_some_iff.mp hg
    have := intsD_inv h1
    subst this
    obtain ⟨v, rfl, hv⟩ := rb1 h
    obtain ⟨a, vs, rfl, h1, h2⟩ := hv.tup
    have := dpAll_ints_inv h2
    subst this
    exact ⟨a, ns, rfl, .inr h1, q _ H (Same.refl H) (.int _)⟩
  · cases hg
/-- all, any of truth values in a list -/
def boolsD : List D → Option (List Bool)
  | [] => some []
  | .bool i :: r => (boolsD r).map (i :: ·)
  | _ :: _ => none
theorem boolsD_map : ∀ ns : List Bool, boolsD (ns.map .bool) = some ns
  | [] => rfl
  | n :: r => by show (boolsD (r.map .bool)).map (n :: ·) = _; rw [boolsD_map r]; rfl
theorem boolsD_inv : ∀ {ds : List D} {ns : List Bool}, boolsD ds = some ns → ds = ns.map .bool
  | [], _, h => by cases h; rfl
  | .bool i :: r, ns, h => by
    obtain ⟨ms, h1, rfl⟩ := Option.map_eq_some_iff.mp (show (boolsD r).map (i :: ·) = some ns from h)
    rw [boolsD_inv h1]; rfl
  | .none :: _, _, h => by cases h
  | .int _ :: _, _, h => by cases h
  | .str _ :: _, _, h => by cases h
  | .list _ :: _, _, h => by cases h
  | .tuple _ :: _, _, h => by cases h
  | .dict _ :: _, _, h => by cases h
theorem dpAll_bools_inv {H : Hp} : ∀ {ns : List Bool} {vs : List V}, DqAll K H vs (ns.map PyData.bool) → vs = ns.map V.bl
  | [], _, .nil => rfl
  | n :: r, _, .cons (.bl _) b => by rw [dpAll_bools_inv b]; rfl
def gAll : List D → Option D
  | [.list xs] => (boolsD xs).map fun bs => .bool (bs.all id)
  | _ => none
def gAny : List D → Option D
  | [.list xs] => (boolsD xs).map fun bs => .bool (bs.any id)
  | _ => none
theorem calld_all : CallD K (rAll K) gAll := by
  intro O H xs ds ys Q ho h hg q
  unfold gAll at hg
  split at hg
  · obtain ⟨ns, h1, rfl⟩ := Option.map_eq_some_iff.mp hg
    have := boolsD_inv h1
    subst this
    obtain ⟨v, rfl, hv⟩ := rb1 h
    obtain ⟨a, vs, rfl, h1, h2⟩ := hv.list
    have := dpAll_bools_inv h2
    subst this
    exact ⟨a, ns, rfl, .of h1, q _ H (Same.refl H) (.bl _)⟩
  · cases hg
theorem calld_any : CallD K (rAny K) gAny := by
  intro O H xs ds ys Q ho h hg q
  unfold gAny at hg
  split at hg
  · obtain ⟨ns, h1, rfl⟩ := Option.map_eq_some_iff.mp hg
    have := boolsD_inv h1
    subst this
    obtain ⟨v, rfl, hv⟩ := rb1 h
    obtain ⟨a, vs, rfl, h1, h2⟩ := hv.list
    have := dpAll_bools_inv h2
    subst this
    exact ⟨a, ns, rfl, .of h1, q _ H (Same.refl H) (.bl _)⟩
  · cases hg
/-- int(n), int(flag), int(text) -/
def gInt : List D → Option D
  | [.int i] => some (.int i)
  | [.bool b] => some (.int (if b then 1 else 0))
  | [.str z] => if z.length ≤ 640 then (PySem.intText? z).map .int else none
  | _ => none
def rIntA : List V → Hp → VK → Prop := fun xs H Q => ((∃ i, xs = [.int i] ∧ Q (.int i) H) ∨ ∃ k, xs = [.bl k] ∧ Q (.int (if k then 1 else 0)) H) ∨ (∃ a n, xs = [.str a] ∧ PySem.intText? a = some n ∧ a.length ≤ 640 ∧ Q (.int n) H)
theorem calld_int : CallD K rIntA gInt := by
  intro O H xs ds ys Q ho h hg q
  unfold gInt at hg
  split at hg
  · cases hg
    obtain ⟨v, rfl, hv⟩ := rb1 h
    have := hv.int
    subst this
    exact .inl (.inl ⟨_, rfl, q _ H (Same.refl H) (.int _)⟩)
  · cases hg
    obtain ⟨v, rfl, hv⟩ := rb1 h
    have := hv.bool
    subst this
    exact .inl (.inr ⟨_, rfl, q _ H (Same.refl H) (.int _)⟩)
  · split at hg
    · rename_i hl
      obtain ⟨n, h1, rfl⟩ := Option.map_eq_some_iff.mp hg
      obtain ⟨v, rfl, hv⟩ := rb1 h
      have := hv.str
      subst this
      exact .inr ⟨_, n, rfl, h1, hl, q _ H (Same.refl H) (.int _)⟩
    · cases hg
  · cases hg
/-- str(n) -/
def gStr : List D → Option D
  | [.int i] => if i.natAbs < 18446744073709551616 then some (.str (toString i)) else none
  | _ => none
theorem calld_str : CallD K (fun xs H Q => ∃ i, xs = [.int i] ∧ i.natAbs.log2 < 1920 ∧ Q (.str (toString i)) H) gStr := by
  intro O H xs ds ys Q ho h hg q
  unfold gStr at hg
  split at hg
  · split at hg
    · rename_i hl
      cases hg
      obtain ⟨v, rfl, hv⟩ := rb1 h
      have := hv.int
      subst this
      refine ⟨_, rfl, ?_, q _ H (Same.refl H) (.str _)⟩
      have e : (2 : Nat) ^ 64 = 18446744073709551616 := by decide
      exact Nat.lt_of_lt_of_le (PySem.Flt.log2_lt_of (show 0 < 64 by decide) (by rw [e]; exact hl)) (by decide)
    · cases hg
  · cases hg
/-- max, min of a list, a tuple of ints; of two ints -/
def gMax : List D → Option D
  | [.list xs] => (intsD xs).bind fun
    | [] => none
    | n :: r => some (.int (r.foldl max n))
  | [.tuple xs] => (intsD xs).bind fun
    | [] => none
    | n :: r => some (.int (r.foldl max n))
  | [.int a, .int b] => some (.int (if b > a then b else a))
  | _ => none
def gMin : List D → Option D
  | [.list xs] => (intsD xs).bind fun
    | [] => none
    | n :: r => some (.int (r.foldl min n))
  | [.tuple xs] => (intsD xs).bind fun
    | [] => none
    | n :: r => some (.int (r.foldl min n))
  | [.int a, .int b] => some (.int (if b < a then b else a))
  | _ => none
def rMaxA (K : PySem.W.Frag) : List V → Hp → VK → Prop := fun vs H Q => (∃ (a : Addr) (n : Int) (r : List Int), vs = [V.ref a] ∧ (SqL K H a ((n :: r).map V.int) ∨ SqT K H a ((n :: r).map V.int)) ∧ Q (.int (r.foldl max n)) H) ∨ ∃ i j, vs = [.int i, .int j] ∧ Q (.int (if j > i then j else i)) H
def rMinA (K : PySem.W.Frag) : List V → Hp → VK → Prop := fun vs H Q => (∃ (a : Addr) (n : Int) (r : List Int), vs = [V.ref a] ∧ (SqL K H a ((n :: r).map V.int) ∨ SqT K H a ((n :: r).map V.int)) ∧ Q (.int (r.foldl min n)) H) ∨ ∃ i j, vs = [.int i, .int j] ∧ Q (.int (if j < i then j else i)) H
theorem calld_max : CallD K (rMaxA K) gMax := by
  intro O H xs ds ys Q ho h hg q
  unfold gMax at hg
  split at hg
  · obtain ⟨ns, h1, h2⟩ := Option.bind_eq_some_iff.mp hg
    have := intsD_inv h1
    subst this
    cases ns with
    | nil => cases h2
    | cons n r =>
    cases h2
    obtain ⟨v, rfl, hv⟩ := rb1 h
    obtain ⟨a, vs, rfl, h1, h2⟩ := hv.list
    have := dpAll_ints_inv h2
    subst this
    exact .inl ⟨a, n, r, rfl, .inl (.of h1), q _ H (Same.refl H) (.int _)⟩
  · obtain ⟨ns, h1, h2⟩ := Option.bind_eq_some_iff.mp hg
    have := intsD_inv h1
    subst this
    cases ns with
    | nil => cases h2
    | cons n r =>
    cases h2
    obtain ⟨v, rfl, hv⟩ := rb1 h
    obtain ⟨a, vs, rfl, h1, h2⟩ := hv.tup
    have := dpAll_ints_inv h2
    subst this
    exact .inl ⟨a, n, r, rfl, .inr h1, q _ H (Same.refl H) (.int _)⟩
  · cases hg
    obtain ⟨v, u, rfl, hv, hu⟩ := rb2 h
    have := hv.int
    have := hu.int
    subst v u
    exact .inr ⟨_, _, rfl, q _ H (Same.refl H) (.int _)⟩
  · cases hg
theorem calld_min : CallD K (rMinA K) gMin := by
  intro O H xs ds ys Q ho h hg q
  unfold gMin at hg
  split at hg
  · obtain ⟨ns, h1, h2⟩ := Option.bind_eq_some_iff.mp hg
    have := intsD_inv h1
    subst this
    cases ns with
    | nil => cases h2
    | cons n r =>
    cases h2
    obtain ⟨v, rfl, hv⟩ := rb1 h
    obtain ⟨a, vs, rfl, h1, h2⟩ := hv.list
    have := dpAll_ints_inv h2
    subst this
    exact .inl ⟨a, n, r, rfl, .inl (.of h1), q _ H (Same.refl H) (.int _)⟩
  · obtain ⟨ns, h1, h2⟩ := Option.bind_eq_some_iff.mp hg
    have := intsD_inv h1
    subst this
    cases ns with
    | nil => cases h2
    | cons n r =>
    cases h2
    obtain ⟨v, rfl, hv⟩ := rb1 h
    obtain ⟨a, vs, rfl, h1, h2⟩ := hv.tup
    have := dpAll_ints_inv h2
    subst this
    exact .inl ⟨a, n, r, rfl, .inr h1, q _ H (Same.refl H) (.int _)⟩
  · cases hg
    obtain ⟨v, u, rfl, hv, hu⟩ := rb2 h
    have := hv.int
    have := hu.int
    subst v u
    exact .inr ⟨_, _, rfl, q _ H (Same.refl H) (.int _)⟩
  · cases hg
end

section
variable {X : Cx} {fa : FA} {x : Str} {p pos : Pos} {a : Expr} {as : List Expr} {id T : String}
theorem xcall_imp {r : List V → Hp → VK → Prop} {g : List D → Option D} {K : PySem.W.Frag} {c : Ct} {σ : Sg} {H : Hp} {Q : VK} (hg : CallD K r g) (hc : c.K = K) (h : tD c (xCall g fa) σ H Q) : tCB r (tA c fa) σ H Q := by
  obtain ⟨e, R, rr, e', he, q⟩ := h
  unfold xCall at he
  cases h1 : fa e with
  | none => rw [h1] at he; cases he
  | some p1 =>
  obtain ⟨rs, e1⟩ := p1
  rw [h1] at he; dsimp only at he
  cases h2 : rds e1 rs with
  | none => rw [h2] at he; cases he
  | some ds =>
  rw [h2] at he; dsimp only at he
  cases h3 : g ds with
  | none => rw [h3] at he; cases he
  | some d =>
  rw [h3] at he; cases he
  refine ⟨e, R, rs, _, h1, fun vs H1 S hrs => ?_⟩
  subst hc
  exact hg (OO c σ e'.sl) H1 vs ds d Q S.rel.hidden (RvRs.rb S.rel hrs h2) h3 fun v H' sm hd => q v H' (S.trans (Stp.grow S.rel sm)) hd
theorem xcalll_imp {r : List V → Hp → VK → Prop} {g : List D → Option (List D)} {K : PySem.W.Frag} {c : Ct} {σ : Sg} {H : Hp} {Q : VK} (hg : CallL K r g) (hc : c.K = K) (h : tL c (xCallL g fa) σ H Q) : tCB r (tA c fa) σ H Q := by
  obtain ⟨e, R, rr, e', he, q⟩ := h
  unfold xCallL at he
  cases h1 : fa e with
  | none => rw [h1] at he; cases he
  | some p1 =>
  obtain ⟨rs, e1⟩ := p1
  rw [h1] at he; dsimp only at he
  cases h2 : rds e1 rs with
  | none => rw [h2] at he; cases he
  | some ds =>
  rw [h2] at he; dsimp only at he
  cases h3 : g ds with
  | none => rw [h3] at he; cases he
  | some d =>
  rw [h3] at he; cases he
  refine ⟨e, R, rs, _, h1, fun vs H1 S hrs => ?_⟩
  subst hc
  refine hg (OO c σ e'.sl) H1 vs ds rr Q S.rel.hidden (RvRs.rb S.rel hrs h2) h3 fun p ws H' hp hp' sm hd => ?_
  exact q p ws H' (S.rel.fresh hp) hp' (S.rel.plus hp hp' sm) S.shr (fun a o n z => sm a o (S.fr a o n z)) (dpAll_mono (hid_same (fun a z => by
    rcases (OO.plus a).mp z with z | z
    · exact .inl z
    · subst z; exact .inr hp) (fr_same sm)) hd)
theorem opl_imp {r : R2} {g : D → D → Option (List D)} {K : PySem.W.Frag} {fa fb : FX} {c : Ct} {σ : Sg} {H : Hp} {Q : VK} (hg : OpL K r g) (hc : c.K = K) (h : tL c (xBinL g fa fb) σ H Q) : tOp r (tD c fa) (tD c fb) σ H Q := by
  obtain ⟨e, R, rr, e', he, q⟩ := h
  unfold xBinL at he
  cases h1 : fa e with
  | none => rw [h1] at he; cases he
  | some p1 =>
  obtain ⟨r1, e1⟩ := p1
  rw [h1] at he; dsimp only at he
  cases h2 : fb e1 with
  | none => rw [h2] at he; cases he
  | some p2 =>
  obtain ⟨r2, e2⟩ := p2
  rw [h2] at he; dsimp only at he
  cases h3 : rd e2 r1 with
  | none => rw [h3] at he; cases he
  | some d1 =>
  rw [h3] at he; dsimp only at he
  cases h4 : rd e2 r2 with
  | none => rw [h4] at he; cases he
  | some d2 =>
  rw [h4] at he; dsimp only at he
  cases h5 : g d1 d2 with
  | none => rw [h5] at he; cases he
  | some d =>
  rw [h5] at he
  cases he
  refine ⟨e, R, r1, e1, h1, fun v1 H1 S1 hr1 => ⟨e1, S1.rel, r2, _, h2, fun v2 H2 S2 hr2 => ?_⟩⟩
  have S := S1.trans S2
  subst hc
  refine hg (OO c σ e'.sl) H2 v1 v2 d1 d2 rr Q S.rel.hidden ((RvR.step S2 hr1).rb S.rel h3) (hr2.rb S.rel h4) h5 fun p ws H' hp hp' sm hd => ?_
  exact q p ws H' (S.rel.fresh hp) hp' (S.rel.plus hp hp' sm) S.shr (fun a o n z => sm a o (S.fr a o n z)) (dpAll_mono (hid_same (fun a z => by
    rcases (OO.plus a).mp z with z | z
    · exact .inl z
    · subst z; exact .inr hp) (fr_same sm)) hd)
theorem dl_bin {a b : Expr} {fa fb : FX} {op : Operator} {r : R2} {g : D → D → Option (List D)} (ho : OpR X (binaryOp op) r) (hg : OpL X.K r g) (ha : DE X a fa) (hb : DE X b fb) : DL X (.BinOp a op b pos) (xBinL g fa fb) :=
  ⟨fun c hc => pe_imp (pe_op ho (ha.pe c hc) (hb.pe c hc)) fun _ _ _ q => opl_imp hg hc q⟩
theorem un_imp {f : FX} {r : V → Hp → VK → Prop} {g : D → Option D} {K : PySem.W.Frag} {c : Ct} {σ : Sg} {H : Hp} {Q : VK} (hg : UnD K r g) (hc : c.K = K) (q : tD c (xUn g f) σ H Q) : tUn r (tD c f) σ H Q := by
  obtain ⟨e, R, rr, e', he, q⟩ := q
  unfold xUn at he
  cases h1 : f e with
  | none => rw [h1] at he; cases he
  | some p1 =>
  obtain ⟨r1, e1⟩ := p1
  rw [h1] at he; dsimp only at he
  cases h2 : rd e1 r1 with
  | none => rw [h2] at he; cases he
  | some d1 =>
  rw [h2] at he; dsimp only at he
  cases h3 : g d1 with
  | none => rw [h3] at he; cases he
  | some d =>
  rw [h3] at he; cases he
  refine ⟨e, R, r1, _, h1, fun v H1 S hr => ?_⟩
  subst hc
  exact hg (OO c σ e'.sl) H1 v d1 d Q S.rel.hidden (hr.rb S.rel h2) h3 fun v H' sm hd => q v H' (S.trans (Stp.grow S.rel sm)) hd
theorem de_un {a : Expr} {f : FX} {op : UnaryOp} {r : V → Hp → VK → Prop} {g : D → Option D} (ho : UnR X (unaryOp op) r) (hg : UnD X.K r g) (ha : DE X a f) : DE X (.UnaryOp op a pos) (xUn g f) :=
  ⟨fun c hc => pe_imp (pe_un ho (ha.pe c hc)) fun _ _ _ q => un_imp hg hc q⟩
theorem de_callB {r : List V → Hp → VK → Prop} {g : List D → Option D} (hc : CallR X (.builtin id) r) (hg : CallD X.K r g) (hm : X.mg x = none) (hv : bootBuiltins x = some (.builtin id)) (ha : DA X (a :: as) fa) (hgl : Gl X x := by rfl) (hn : x ≠ "__name__" := by decide) (hdb : (x == ("__debug__" : Str)) = false := by decide)
    (he : starEach (a :: as) X.env = (false, eval a X.env) :: starEach as X.env := by rfl) (hpl : (backTo pos (starEach as X.env)).any (·.1) = false := by rfl) : DE X (.Call (.Name x p) (a :: as) [] pos) (xCall g fa) :=
  ⟨fun c hk => pe_imp (pe_callB hc hgl hm hv (ha.pa c hk) hn hdb he hpl) fun _ _ _ q => xcall_imp hg hk q⟩
theorem de_callTy {r : List V → Hp → VK → Prop} {g : List D → Option D} (hc : CallR X (.type T) r) (hg : CallD X.K r g) (hm : X.mg x = none) (hv : bootBuiltins x = some (.type T)) (ha : DA X (a :: as) fa) (hgl : Gl X x := by rfl) (hn : x ≠ "__name__" := by decide) (hdb : (x == ("__debug__" : Str)) = false := by decide)
    (he : starEach (a :: as) X.env = (false, eval a X.env) :: starEach as X.env := by rfl) (hpl : (backTo pos (starEach as X.env)).any (·.1) = false := by rfl) : DE X (.Call (.Name x p) (a :: as) [] pos) (xCall g fa) :=
  ⟨fun c hk => pe_imp (pe_callTy hc hgl hm hv (ha.pa c hk) hn hdb he hpl) fun _ _ _ q => xcall_imp hg hk q⟩
theorem dl_callB {r : List V → Hp → VK → Prop} {g : List D → Option (List D)} (hc : CallR X (.builtin id) r) (hg : CallL X.K r g) (hm : X.mg x = none) (hv : bootBuiltins x = some (.builtin id)) (ha : DA X (a :: as) fa) (hgl : Gl X x := by rfl) (hn : x ≠ "__name__" := by decide) (hdb : (x == ("__debug__" : Str)) = false := by decide)
    (he : starEach (a :: as) X.env = (false, eval a X.env) :: starEach as X.env := by rfl) (hpl : (backTo pos (starEach as X.env)).any (·.1) = false := by rfl) : DL X (.Call (.Name x p) (a :: as) [] pos) (xCallL g fa) :=
  ⟨fun c hk => pe_imp (pe_callB hc hgl hm hv (ha.pa c hk) hn hdb he hpl) fun _ _ _ q => xcalll_imp hg hk q⟩
theorem dl_callTy {r : List V → Hp → VK → Prop} {g : List D → Option (List D)} (hc : CallR X (.type T) r) (hg : CallL X.K r g) (hm : X.mg x = none) (hv : bootBuiltins x = some (.type T)) (ha : DA X (a :: as) fa) (hgl : Gl X x := by rfl) (hn : x ≠ "__name__" := by decide) (hdb : (x == ("__debug__" : Str)) = false := by decide)
    (he : starEach (a :: as) X.env = (false, eval a X.env) :: starEach as X.env := by rfl) (hpl : (backTo pos (starEach as X.env)).any (·.1) = false := by rfl) : DL X (.Call (.Name x p) (a :: as) [] pos) (xCallL g fa) :=
  ⟨fun c hk => pe_imp (pe_callTy hc hgl hm hv (ha.pa c hk) hn hdb he hpl) fun _ _ _ q => xcalll_imp hg hk q⟩
end

/-! ### the calls' rules -/
section
variable {X : Cx}
theorem call_intA : CallR X (.type "int") rIntA := call_int1.or call_int_str
theorem call_sumA (hc : X.calm = true) : CallR X (.builtin "sum") (rSumA X.K) := by
  intro pins s σ H vs us Q I r h
  obtain ⟨a, ns, rfl, hs, q⟩ := h
  rcases hs with hs | hs
  · exact cr_sum hc pins s σ H _ us Q I r ⟨a, ns, rfl, hs, q⟩
  · obtain ⟨its, rv, ht, _⟩ := I.tuple hs
    rw [Vals.ref1 r]
    obtain ⟨xs, e⟩ := rv.ints.allInts.items
    rw [e] at ht
    have hn : numsOf (intItems xs).toList = ns := by rw [← e]; exact rv.ints.numsOf
    rw [nums_intItems] at hn
    refine PySem.W.ktm_sumG (I.ok.hd hc) ht fun h' tk t' hk => ?_
    rw [preSum_eq, List.take_of_length_le (by simp), hn]
    exact ⟨.int _, H, I.kept hk, ⟨_, rfl⟩, q⟩
theorem alike_intsAll (n : Int) (r : List Int) : PySem.W.AlikeAll (.int n :: r.map PyData.int) := by
  refine ⟨fun x hx y hy => ?_, fun x hx z => ?_⟩
  · have e : (PyData.int n :: r.map PyData.int) = (n :: r).map PyData.int := rfl
    rw [e] at hx hy
    obtain ⟨i, _, rfl⟩ := List.mem_map.mp hx
    obtain ⟨j, _, rfl⟩ := List.mem_map.mp hy
    rfl
  · have e : (PyData.int n :: r.map PyData.int) = (n :: r).map PyData.int := rfl
    rw [e] at hx
    obtain ⟨i, _, rfl⟩ := List.mem_map.mp hx
    cases z
theorem dpAllInts {K : PySem.W.Frag} {H : Hp} : ∀ ns : List Int, L2.DpAll K H (ns.map V.int) (ns.map PyData.int)
  | [] => .nil
  | n :: r => .cons (.int n) (dpAllInts r)
theorem depthInts (n : Int) (r : List Int) : PyData.depthAll (.int n :: r.map PyData.int) = 0 := PySem.W.depth_ints (n :: r)
theorem reads_int {h : Heap} {v : Value} {i : Int} {as : List Addr} (r : Reads h v (.int i) as) : ∃ t, v = .int i t := by
  cases r; exact ⟨_, rfl⟩
theorem call_maxA (hc : X.calm = true) (hu : X.A.units + 64 < cLine) : CallR X (.builtin "max") (rMaxA X.K) := by
  intro pins s σ H vs us Q I r h
  rcases h with ⟨a, n, l, rfl, hs, q⟩ | h
  · rw [Vals.ref1 r]
    rcases hs with hs | hs
    · obtain ⟨its, rv, hl, _⟩ := I.list hs
      obtain ⟨as, hr⟩ := L2.Dp.readsAll I _ _ its (dpAllInts (n :: l)) rv
      refine PySem.W.max_list_data (xs := l.map PyData.int) (I.ok.hd hc) hl.isList (by simpa using hr) (alike_intsAll n l) (by rw [depthInts]; omega) fun i v h' tk bs _ rd hk => ?_
      rw [PySem.W.maxD_ints] at rd
      obtain ⟨t, rfl⟩ := reads_int rd
      exact ⟨.int _, H, I.kept hk, ⟨_, rfl⟩, q⟩
    · obtain ⟨its, rv, hl, _⟩ := I.tuple hs
      obtain ⟨as, hr⟩ := L2.Dp.readsAll I _ _ its (dpAllInts (n :: l)) rv
      refine PySem.W.max_tuple_data (xs := l.map PyData.int) (I.ok.hd hc) hl (by simpa using hr) (alike_intsAll n l) (by rw [depthInts]; omega) fun i v h' tk bs _ rd hk => ?_
      rw [PySem.W.maxD_ints] at rd
      obtain ⟨t, rfl⟩ := reads_int rd
      exact ⟨.int _, H, I.kept hk, ⟨_, rfl⟩, q⟩
  · exact call_max2 hc pins s σ H vs us Q I r h
theorem call_minA (hc : X.calm = true) (hu : X.A.units + 64 < cLine) : CallR X (.builtin "min") (rMinA X.K) := by
  intro pins s σ H vs us Q I r h
  rcases h with ⟨a, n, l, rfl, hs, q⟩ | h
  · rw [Vals.ref1 r]
    rcases hs with hs | hs
    · obtain ⟨its, rv, hl, _⟩ := I.list hs
      obtain ⟨as, hr⟩ := L2.Dp.readsAll I _ _ its (dpAllInts (n :: l)) rv
      refine PySem.W.min_list_data (xs := l.map PyData.int) (I.ok.hd hc) hl.isList (by simpa using hr) (alike_intsAll n l) (by rw [depthInts]; omega) fun i v h' tk bs _ rd hk => ?_
      rw [PySem.W.minD_ints] at rd
      obtain ⟨t, rfl⟩ := reads_int rd
      exact ⟨.int _, H, I.kept hk, ⟨_, rfl⟩, q⟩
    · obtain ⟨its, rv, hl, _⟩ := I.tuple hs
      obtain ⟨as, hr⟩ := L2.Dp.readsAll I _ _ its (dpAllInts (n :: l)) rv
      refine PySem.W.min_tuple_data (xs := l.map PyData.int) (I.ok.hd hc) hl (by simpa using hr) (alike_intsAll n l) (by rw [depthInts]; omega) fun i v h' tk bs _ rd hk => ?_
      rw [PySem.W.minD_ints] at rd
      obtain ⟨t, rfl⟩ := reads_int rd
      exact ⟨.int _, H, I.kept hk, ⟨_, rfl⟩, q⟩
  · exact call_min2 hc pins s σ H vs us Q I r h
end
end DD

namespace DD
open PySem PySem.Spec PyProof.Rows L2

/-! ### what is walked -/
section
variable {X : Cx} {tg x : Expr} {f : FX}
/-- a list or a tuple that is read -/
def iSeq (K : PySem.W.Frag) (tl : TE) : TI := fun σ H R => tl σ H fun x H1 => ∃ a, x = .ref a ∧ (((∃ xs, SqL K H1 a xs) ∧ R (Itl K a) H1) ∨ ((∃ xs, SqT K H1 a xs) ∧ R (Itt K a) H1))
theorem pi_seq {tl : TE} (hl : PE X x tl) : PI X tg x (iSeq X.K tl) := by
  refine ⟨fun pins s σ H R I h => ?_⟩
  refine thn (hl.run pins s σ H _ I h) fun v s1 ⟨y, H1, I1, r1, q1⟩ => ?_
  obtain ⟨a, e, q1⟩ := q1
  subst e
  cases r1
  rcases q1 with ⟨⟨xs, hq⟩, q⟩ | ⟨⟨xs, hq⟩, q⟩
  · obtain ⟨its, rv, p, hz⟩ := I1.list hq
    refine wpAny_pyIter_list p.isList ?_
    refine ⟨s1.heap.objs.size, [s1.heap.objs.size], _, _, H1, rfl, I1.kept (t' := s1.toks) fun b o e => Heap.get?_push_of_some _ e, turn_list a _, ⟨_, Heap.get?_push_size _ rfl, rfl, rfl⟩, fun b hb => ?_, q⟩
    have e : b = s1.heap.objs.size := by simpa using hb
    subst e
    exact I1.fpOk (Nat.le_refl _) (I1.hok.fresh (Nat.le_refl _))
  · obtain ⟨its, rv, p, hz⟩ := I1.tuple hq
    refine wpAny_pyIter_tuple (show s1.heap.IsTuple a its.toArray from p) ?_
    refine ⟨s1.heap.objs.size, [s1.heap.objs.size], _, _, H1, rfl, I1.kept (t' := s1.toks) fun b o e => Heap.get?_push_of_some _ e, turn_tuple a _, ⟨_, Heap.get?_push_size _ rfl, rfl, rfl⟩, fun b hb => ?_, q⟩
    have e : b = s1.heap.objs.size := by simpa using hb
    subst e
    exact I1.fpOk (Nat.le_refl _) (I1.hok.fresh (Nat.le_refl _))
theorem wk_list {K : PySem.W.Frag} {O : Addr → Prop} {H : Hp} {a : Addr} {vs : List V} {ds : List D} (h : hid O H a = some (.lst vs)) (hd : DqAll K (hid O H) vs ds) : Wk K O (Itl K a) ds H := fun O' H' s _ => by
  have h1 : SqL K H' a vs := .of (hid_le _ _ (s _ _ h))
  refine ⟨⟨vs, h1, by rw [dpAll_len hd]; exact Nat.le_refl _⟩, fun i d hi => ?_⟩
  obtain ⟨v, g1, g2⟩ := dpAll_get hd hi
  exact ⟨⟨vs, v, h1, g1⟩, fun x H'' y => by
    obtain ⟨rfl, y⟩ := y
    have := y vs h1
    rw [g1] at this; cases this
    exact ⟨Same.refl _, dp_mono s g2⟩⟩
theorem wk_tup {K : PySem.W.Frag} {O : Addr → Prop} {H : Hp} {a : Addr} {vs : List V} {ds : List D} (h : SqT K (hid O H) a vs) (hd : DqAll K (hid O H) vs ds) : Wk K O (Itt K a) ds H := fun O' H' s _ => by
  have h1 : SqT K H' a vs := sqT_mono hid_le (sqT_mono s h)
  refine ⟨⟨vs, h1, by rw [dpAll_len hd]; exact Nat.le_refl _⟩, fun i d hi => ?_⟩
  obtain ⟨v, g1, g2⟩ := dpAll_get hd hi
  exact ⟨⟨vs, v, h1, g1⟩, fun x H'' y => by
    obtain ⟨rfl, y⟩ := y
    have := y vs h1
    rw [g1] at this; cases this
    exact ⟨Same.refl _, dp_mono s g2⟩⟩
/-- the items of a list or a tuple (a list of one's own is given away) -/
def iItems (f : FX) : FL := fun e => match f e with
  | some (r, e1) => (match fz r e1 with
    | some (.list xs, e2) => some (xs, e2)
    | some (.tuple xs, e2) => some (xs, e2)
    | _ => none)
  | none => none
theorem di_seq (h : DE X x f) : DI X tg x (iItems f) := by
  refine ⟨fun c hc => pi_imp (pi_seq (h.pe c hc)) fun σ H R q => ?_⟩
  obtain ⟨e, R0, ds, e', he, q⟩ := q
  unfold iItems at he
  cases h1 : f e with
  | none => rw [h1] at he; cases he
  | some p =>
  obtain ⟨r, e1⟩ := p
  rw [h1] at he; dsimp only at he
  cases h2 : fz r e1 with
  | none => rw [h2] at he; cases he
  | some p =>
  obtain ⟨d, e2⟩ := p
  rw [h2] at he
  refine ⟨e, R0, r, e1, h1, fun v H1 S hr => ?_⟩
  obtain ⟨S2, hd⟩ := fz_ok S.rel hr h2
  cases d with
  | list xs =>
    cases he
    cases hd with
    | lst g1 g2 =>
      rw [← hc]
      exact ⟨_, rfl, .inl ⟨⟨_, .of (hid_le _ _ g1)⟩, q _ H1 (S.trans S2) (wk_list g1 g2)⟩⟩
  | tuple xs =>
    cases he
    cases hd with
    | tup g1 g2 =>
      rw [← hc]
      exact ⟨_, rfl, .inr ⟨⟨_, sqT_mono hid_le g1⟩, q _ H1 (S.trans S2) (wk_tup g1 g2)⟩⟩
  | _ => cases he

/-- range(n), range(a, b) -/
def rangeD (lo : Int) (n : Nat) : List D := (List.range n).map fun i => .int (lo + (i : Nat))
def okR (i : Int) : Bool := decide (-4611686018427387904 ≤ i ∧ i < 4611686018427387904)
theorem okR_of {i : Int} (h : okR i = true) : -(2 ^ 62) ≤ i ∧ i < 2 ^ 62 := by
  have := of_decide_eq_true h
  have e : (2 : Int) ^ 62 = 4611686018427387904 := by decide
  rw [e]; omega
theorem wk_range {K : PySem.W.Frag} {O : Addr → Prop} {H : Hp} {lo : Int} {n : Nat} : Wk K O (Itr lo n) (rangeD lo n) H := fun O' H' s _ => by
  refine ⟨by show n ≤ _; simp [rangeD], fun i d hi => ?_⟩
  unfold rangeD at hi
  rw [List.getElem?_map] at hi
  obtain ⟨j, hj, rfl⟩ := Option.map_eq_some_iff.mp hi
  have hlt : i < n := by
    have := (List.getElem?_eq_some_iff.mp hj).1
    simpa using this
  rw [List.getElem?_range hlt] at hj
  cases hj
  exact ⟨hlt, fun x H'' y => by obtain ⟨rfl, rfl⟩ := y; exact ⟨Same.refl _, .int _⟩⟩
def iRange1 (fa : FA) : FL := fun e => match fa e with
  | some (rs, e1) => (match rds e1 rs with
    | some [.int j] => if okR j = true then some (rangeD 0 j.toNat, e1) else none
    | _ => none)
  | none => none
def iRange2 (fa : FA) : FL := fun e => match fa e with
  | some (rs, e1) => (match rds e1 rs with
    | some [.int i, .int j] => if (okR i && okR j) = true then some (rangeD i (j - i).toNat, e1) else none
    | _ => none)
  | none => none
theorem di_range1 {tg : Expr} {a : Expr} {fa : FA} {p pos : Pos} (hm : X.mg "range" = none) (ha : DA X [a] fa) (hg : Gl X "range" := by rfl) (hs : starEach [a] X.env = [(false, eval a X.env)] := by rfl) : DI X tg (.Call (.Name "range" p) [a] [] pos) (iRange1 fa) := by
  refine ⟨fun c hc => pi_imp (pi_range1 hg hm (ha.pa c hc) hs) fun σ H R q => ?_⟩
  obtain ⟨e, R0, ds, e', he, q⟩ := q
  unfold iRange1 at he
  cases h1 : fa e with
  | none => rw [h1] at he; cases he
  | some p =>
  obtain ⟨rs, e1⟩ := p
  rw [h1] at he; dsimp only at he
  refine ⟨e, R0, rs, e1, h1, fun vs H1 S hrs => ?_⟩
  split at he
  · rename_i j h2
    split at he
    · rename_i hj
      cases he
      obtain ⟨v, rfl, hv⟩ := rb1 (RvRs.rb S.rel hrs h2)
      have := hv.int
      subst this
      obtain ⟨k1, k2⟩ := okR_of hj
      exact ⟨j, rfl, k1, k2, q _ H1 S wk_range⟩
    · cases he
  · cases he
theorem di_range2 {tg : Expr} {a b : Expr} {fa : FA} {p pos : Pos} (hm : X.mg "range" = none) (ha : DA X [a, b] fa) (hg : Gl X "range" := by rfl) (hs : starEach [a, b] X.env = [(false, eval a X.env), (false, eval b X.env)] := by rfl) (hs2 : starEach [b] X.env = [(false, eval b X.env)] := by rfl) : DI X tg (.Call (.Name "range" p) [a, b] [] pos) (iRange2 fa) := by
  refine ⟨fun c hc => pi_imp (pi_range2 hg hm (ha.pa c hc) hs hs2) fun σ H R q => ?_⟩
  obtain ⟨e, R0, ds, e', he, q⟩ := q
  unfold iRange2 at he
  cases h1 : fa e with
  | none => rw [h1] at he; cases he
  | some p =>
  obtain ⟨rs, e1⟩ := p
  rw [h1] at he; dsimp only at he
  refine ⟨e, R0, rs, e1, h1, fun vs H1 S hrs => ?_⟩
  split at he
  · rename_i i j h2
    split at he
    · rename_i hj
      cases he
      rw [Bool.and_eq_true] at hj
      obtain ⟨v, u, rfl, hv, hu⟩ := rb2 (RvRs.rb S.rel hrs h2)
      have := hv.int
      have := hu.int
      subst v u
      obtain ⟨k1, k2⟩ := okR_of hj.1
      obtain ⟨k3, k4⟩ := okR_of hj.2
      exact ⟨i, j, rfl, ⟨k1, k2, k3, k4⟩, q _ H1 S wk_range⟩
    · cases he
  · cases he
/-- zip of two lists, of two tuples -/
def zipD (xs ys : List D) : List D := (xs.zip ys).map fun p => .tuple [p.1, p.2]
def iZipD (fa : FA) : FL := fun e => match fa e with
  | some (rs, e1) => (match fzs rs e1 with
    | some ([.list xs, .list ys], e2) => some (zipD xs ys, e2)
    | some ([.tuple xs, .tuple ys], e2) => some (zipD xs ys, e2)
    | _ => none)
  | none => none
theorem zipD_get {xs ys : List D} {i : Nat} {d : D} (h : (zipD xs ys)[i]? = some d) : ∃ x y, xs[i]? = some x ∧ ys[i]? = some y ∧ d = .tuple [x, y] := by
  unfold zipD at h
  rw [List.getElem?_map] at h
  obtain ⟨⟨x, y⟩, h1, rfl⟩ := Option.map_eq_some_iff.mp h
  obtain ⟨h2, h3⟩ := List.getElem?_zip_eq_some.mp h1
  exact ⟨x, y, h2, h3, rfl⟩
theorem wk_zipL {K : PySem.W.Frag} {O : Addr → Prop} {H : Hp} {a b : Addr} {vs ws : List V} {ds es : List D} (h : hid O H a = some (.lst vs)) (hd : DqAll K (hid O H) vs ds) (h' : hid O H b = some (.lst ws)) (hd' : DqAll K (hid O H) ws es) : Wk K O (Itz K a b) (zipD ds es) H := fun O' H' s ho => by
  have h1 : SqL K H' a vs := .of (hid_le _ _ (s _ _ h))
  have h2 : SqL K H' b ws := .of (hid_le _ _ (s _ _ h'))
  have l1 := dpAll_len hd
  have l2 := dpAll_len hd'
  refine ⟨⟨vs, ws, h1, h2, by simp only [zipD, List.length_map, List.length_zip]; omega⟩, fun i d hi => ?_⟩
  obtain ⟨x, y, g1, g2, rfl⟩ := zipD_get hi
  obtain ⟨v, g3, g4⟩ := dpAll_get hd g1
  obtain ⟨w, g5, g6⟩ := dpAll_get hd' g2
  exact ⟨⟨vs, ws, v, w, h1, h2, g3, g5⟩, fun z H'' q => by
    obtain ⟨T, x', y', rfl, hT, rfl, q1, q2⟩ := q
    have e1 := q1 vs h1
    have e2 := q2 ws h2
    rw [g3] at e1; rw [g5] at e2; cases e1; cases e2
    exact ⟨same_upd hT, new_tup ho hT (.cons (dp_mono s g4) (.cons (dp_mono s g6) .nil))⟩⟩
theorem wk_zipT {K : PySem.W.Frag} {O : Addr → Prop} {H : Hp} {a b : Addr} {vs ws : List V} {ds es : List D} (h : SqT K (hid O H) a vs) (hd : DqAll K (hid O H) vs ds) (h' : SqT K (hid O H) b ws) (hd' : DqAll K (hid O H) ws es) : Wk K O (RZ.ItzT K a b) (zipD ds es) H := fun O' H' s ho => by
  have h1 : SqT K H' a vs := sqT_mono hid_le (sqT_mono s h)
  have h2 : SqT K H' b ws := sqT_mono hid_le (sqT_mono s h')
  have l1 := dpAll_len hd
  have l2 := dpAll_len hd'
  refine ⟨⟨vs, ws, h1, h2, by simp only [zipD, List.length_map, List.length_zip]; omega⟩, fun i d hi => ?_⟩
  obtain ⟨x, y, g1, g2, rfl⟩ := zipD_get hi
  obtain ⟨v, g3, g4⟩ := dpAll_get hd g1
  obtain ⟨w, g5, g6⟩ := dpAll_get hd' g2
  exact ⟨⟨vs, ws, v, w, h1, h2, g3, g5⟩, fun z H'' q => by
    obtain ⟨T, x', y', rfl, hT, rfl, q1, q2⟩ := q
    have e1 := q1 vs h1
    have e2 := q2 ws h2
    rw [g3] at e1; rw [g5] at e2; cases e1; cases e2
    exact ⟨same_upd hT, new_tup ho hT (.cons (dp_mono s g4) (.cons (dp_mono s g6) .nil))⟩⟩
theorem di_zip {a b : Expr} {fa : FA} {p pos tpos : Pos} {elts : List Expr} {kk : Nat} (hm : X.mg "zip" = none) (ha : DA X [a, b] fa) (hg : Gl X "zip" := by rfl)
    (hs : starEach [a, b] X.env = (false, eval a X.env) :: starEach [b] X.env := by rfl) (hpl : (backTo pos (starEach [b] X.env)).any (·.1) = false := by rfl) : DI X (.Tuple elts kk tpos) (.Call (.Name "zip" p) [a, b] [] pos) (iZipD fa) := by
  refine ⟨fun c hc => pi_imp (RZ.pi_zipA hg hm (ha.pa c hc) hs hpl) fun σ H R q => ?_⟩
  obtain ⟨e, R0, ds, e', he, q⟩ := q
  unfold iZipD at he
  cases h1 : fa e with
  | none => rw [h1] at he; cases he
  | some p =>
  obtain ⟨rs, e1⟩ := p
  rw [h1] at he; dsimp only at he
  refine ⟨e, R0, rs, e1, h1, fun vs H1 S hrs => ?_⟩
  rw [← hc]
  split at he
  · rename_i xs ys e2 h2
    cases he
    obtain ⟨S2, hd⟩ := fzs_ok S.rel hrs h2
    cases hd with
    | cons d1 hd => cases hd with
      | cons d2 hd =>
        cases hd
        cases d1 with
        | lst g1 g2 => cases d2 with
          | lst g3 g4 => exact ⟨_, _, _, _, rfl, .inl ⟨.of (hid_le _ _ g1), .of (hid_le _ _ g3), q _ H1 (S.trans S2) (wk_zipL g1 g2 g3 g4)⟩⟩
  · rename_i xs ys e2 h2
    cases he
    obtain ⟨S2, hd⟩ := fzs_ok S.rel hrs h2
    cases hd with
    | cons d1 hd => cases hd with
      | cons d2 hd =>
        cases hd
        cases d1 with
        | tup g1 g2 => cases d2 with
          | tup g3 g4 => exact ⟨_, _, _, _, rfl, .inr ⟨sqT_mono hid_le g1, sqT_mono hid_le g3, q _ H1 (S.trans S2) (wk_zipT g1 g2 g3 g4)⟩⟩
  · cases he
/-- enumerate(list) -/
def enumD : Nat → List D → List D
  | _, [] => []
  | i, x :: xs => .tuple [.int (i : Nat), x] :: enumD (i + 1) xs
theorem enumD_len : ∀ {i : Nat} {xs : List D}, (enumD i xs).length = xs.length
  | _, [] => rfl
  | i, x :: xs => by simp [enumD, enumD_len]
theorem enumD_get : ∀ {k : Nat} {xs : List D} {i : Nat} {d : D}, (enumD k xs)[i]? = some d → ∃ x, xs[i]? = some x ∧ d = .tuple [.int ((k + i : Nat)), x]
  | k, [], i, d, h => by simp [enumD] at h
  | k, x :: xs, 0, d, h => by simp [enumD] at h; subst h; exact ⟨x, rfl, by simp⟩
  | k, x :: xs, i + 1, d, h => by
    simp only [enumD, List.getElem?_cons_succ] at h
    obtain ⟨y, h1, rfl⟩ := enumD_get h
    exact ⟨y, by simpa using h1, by rw [show k + 1 + i = k + (i + 1) by omega]⟩
theorem wk_enum {K : PySem.W.Frag} {O : Addr → Prop} {H : Hp} {a : Addr} {vs : List V} {ds : List D} (h : hid O H a = some (.lst vs)) (hd : DqAll K (hid O H) vs ds) : Wk K O (Ite K a) (enumD 0 ds) H := fun O' H' s ho => by
  have h1 : SqL K H' a vs := .of (hid_le _ _ (s _ _ h))
  have l1 := dpAll_len hd
  refine ⟨⟨vs, h1, by rw [enumD_len]; omega⟩, fun i d hi => ?_⟩
  obtain ⟨x, g1, rfl⟩ := enumD_get hi
  obtain ⟨v, g3, g4⟩ := dpAll_get hd g1
  exact ⟨⟨vs, v, h1, g3⟩, fun z H'' q => by
    obtain ⟨T, x', rfl, hT, rfl, q1⟩ := q
    have e1 := q1 vs h1
    rw [g3] at e1; cases e1
    exact ⟨same_upd hT, new_tup ho hT (.cons (by rw [Nat.zero_add]; exact .int _) (.cons (dp_mono s g4) .nil))⟩⟩
def iEnumD (fa : FA) : FL := fun e => match fa e with
  | some (rs, e1) => (match fzs rs e1 with
    | some ([.list xs], e2) => some (enumD 0 xs, e2)
    | _ => none)
  | none => none
theorem di_enum {a : Expr} {fa : FA} {p pos tpos : Pos} {elts : List Expr} {kk : Nat} (hm : X.mg "enumerate" = none) (ha : DA X [a] fa) (hg : Gl X "enumerate" := by rfl)
    (hs : starEach [a] X.env = [(false, eval a X.env)] := by rfl) : DI X (.Tuple elts kk tpos) (.Call (.Name "enumerate" p) [a] [] pos) (iEnumD fa) := by
  refine ⟨fun c hc => pi_imp (pi_enum hg hm (ha.pa c hc) hs) fun σ H R q => ?_⟩
  obtain ⟨e, R0, ds, e', he, q⟩ := q
  unfold iEnumD at he
  cases h1 : fa e with
  | none => rw [h1] at he; cases he
  | some p =>
  obtain ⟨rs, e1⟩ := p
  rw [h1] at he; dsimp only at he
  refine ⟨e, R0, rs, e1, h1, fun vs H1 S hrs => ?_⟩
  rw [← hc]
  split at he
  · rename_i xs e2 h2
    cases he
    obtain ⟨S2, hd⟩ := fzs_ok S.rel hrs h2
    cases hd with
    | cons d1 hd =>
      cases hd
      cases d1 with
      | lst g1 g2 => exact ⟨_, _, rfl, .of (hid_le _ _ g1), q _ H1 (S.trans S2) (wk_enum g1 g2)⟩
  · cases he
/-- a text, sign by sign -/
def signsD (z : Str) : List D := z.cps.toList.map fun c => .str ⟨#[c]⟩
theorem wk_str {K : PySem.W.Frag} {O : Addr → Prop} {H : Hp} {z : Str} : Wk K O (Its z) (signsD z) H := fun O' H' s _ => by
  refine ⟨by show z.cps.size ≤ _; simp [signsD], fun i d hi => ?_⟩
  unfold signsD at hi
  rw [List.getElem?_map] at hi
  obtain ⟨c, hc, rfl⟩ := Option.map_eq_some_iff.mp hi
  have hc' : z.cps[i]? = some c := by simpa using hc
  have hlt : i < z.cps.size := (Array.getElem?_eq_some_iff.mp hc').1
  exact ⟨hlt, fun x H'' y => by
    obtain ⟨rfl, c', h1, rfl⟩ := y
    rw [hc'] at h1; cases h1
    exact ⟨Same.refl _, .str _⟩⟩
def iStrD (f : FX) : FL := fun e => match f e with
  | some (.d (.str z), e1) => some (signsD z, e1)
  | _ => none
theorem di_str (h : DE X x f) : DI X tg x (iStrD f) := by
  refine ⟨fun c hc => pi_imp (pi_str (h.pe c hc)) fun σ H R q => ?_⟩
  obtain ⟨e, R0, ds, e', he, q⟩ := q
  unfold iStrD at he
  split at he
  · rename_i z e1 h1
    cases he
    refine ⟨e, R0, _, _, h1, fun v H1 S hr => ?_⟩
    cases (show Dq c.K _ v (.str z) from hr)
    exact ⟨z, rfl, q _ H1 S wk_str⟩
  · cases he
end
end DD

namespace DD
open PySem PySem.Spec PyProof.Rows L2

/-! ### comprehensions -/
def wipeSl (sl : List Sl) : List Nat → List Sl
  | [] => sl
  | v :: vs => (wipeSl sl vs).set v .un
def wipeE (vs : List Nat) (e : ES) : ES := ⟨wipeSl e.sl vs, e.tp⟩
def keepSl (s1 : List Sl) (v : Nat) : Sl := match s1[v]? with
  | some (.d x) => .d x
  | _ => .un
def restoreSl (s1 s2 : List Sl) : List Nat → List Sl
  | [] => s2
  | v :: vs => (restoreSl s1 s2 vs).set v (keepSl s1 v)
def restoreE (vs : List Nat) (e1 e2 : ES) : ES := ⟨restoreSl e1.sl e2.sl vs, e2.tp⟩
def compLoop (vs : List Nat) (gt : FG) (ft : FT) (fe : FX) : List D → List D → ES → Option (List D × ES)
  | [], acc, e => some (acc, e)
  | d :: ds, acc, e => match gt d e with
    | some e2 => (match ft e2 with
      | some (true, e3) => (match fe e3 with
        | some (r, e4) => (match fz r e4 with
          | some (y, e5) => if acc.length < 16000000 then compLoop vs gt ft fe ds (acc ++ [y]) (wipeE vs e5) else none
          | none => none)
        | none => none)
      | some (false, e3) => compLoop vs gt ft fe ds acc (wipeE vs e3)
      | none => none)
    | none => none
def xComp (vs : List Nat) (fi : FL) (gt : FG) (ft : FT) (fe : FX) : FL := fun e => match fi e with
  | some (ds, e1) => (match compLoop vs gt ft fe ds [] (wipeE vs e1) with
    | some (xs, e2) => some (xs, restoreE vs e1 e2)
    | none => none)
  | none => none
def tTrue : FT := fun e => some (true, e)

theorem wipeSl_len (sl : List Sl) : ∀ vs, (wipeSl sl vs).length = sl.length
  | [] => rfl
  | v :: vs => by unfold wipeSl; rw [List.length_set, wipeSl_len sl vs]
theorem wipeSl_get {sl : List Sl} {j : Nat} {s : Sl} : ∀ {vs : List Nat}, (wipeSl sl vs)[j]? = some s → s = .un ∨ (j ∉ vs ∧ sl[j]? = some s)
  | [], h => .inr ⟨by simp, h⟩
  | v :: vs, h => by
    unfold wipeSl at h
    rcases get_set2 h with ⟨_, h1, _⟩ | ⟨n, h1⟩
    · exact .inl h1
    · rcases wipeSl_get h1 with h2 | ⟨h2, h3⟩
      · exact .inl h2
      · exact .inr ⟨by simp only [List.mem_cons, not_or]; exact ⟨n, h2⟩, h3⟩
theorem restoreSl_len (s1 s2 : List Sl) : ∀ vs, (restoreSl s1 s2 vs).length = s2.length
  | [] => rfl
  | v :: vs => by unfold restoreSl; rw [List.length_set, restoreSl_len s1 s2 vs]
theorem restoreSl_get {s1 s2 : List Sl} {j : Nat} {s : Sl} : ∀ {vs : List Nat}, (restoreSl s1 s2 vs)[j]? = some s → s = .un ∨ (j ∉ vs ∧ s2[j]? = some s) ∨ (j ∈ vs ∧ ∃ x, s1[j]? = some (.d x) ∧ s = .d x)
  | [], h => .inr (.inl ⟨by simp, h⟩)
  | v :: vs, h => by
    unfold restoreSl at h
    rcases get_set2 h with ⟨hj, h1, _⟩ | ⟨n, h1⟩
    · subst hj
      unfold keepSl at h1
      split at h1
      · rename_i x hx; exact .inr (.inr ⟨by simp, x, hx, h1⟩)
      · exact .inl h1
    · rcases restoreSl_get h1 with h2 | ⟨h2, h3⟩ | ⟨h2, x, h3, h4⟩
      · exact .inl h2
      · exact .inr (.inl ⟨by simp only [List.mem_cons, not_or]; exact ⟨n, h2⟩, h3⟩)
      · exact .inr (.inr ⟨by simp [h2], x, h3, h4⟩)
theorem wipe_in {σ : Sg} {j : Nat} : ∀ {vs : List Nat}, j ∈ vs → (wipe σ vs)[j]? = if j < σ.length then some none else none
  | v :: vs, h => by
    unfold wipe
    by_cases q : v = j
    · subst q
      by_cases hl : v < σ.length
      · rw [if_pos hl, List.getElem?_set_self (by rw [wipe_length]; exact hl)]
      · rw [if_neg hl, List.getElem?_eq_none_iff.mpr (by rw [List.length_set, wipe_length]; omega)]
    · rw [List.getElem?_set_ne q]
      rcases List.mem_cons.mp h with e | h
      · exact absurd e.symm q
      · exact wipe_in h
theorem wipe_eq {σ σ' : Sg} {vs is : List Nat} (hi : ∀ i ∈ is, i ∈ vs) (h : ∀ j, j ∉ is → σ'[j]? = (wipe σ vs)[j]?) (hl : σ'.length = (wipe σ vs).length) : wipe σ' vs = wipe σ vs := by
  rw [wipe_length] at hl
  refine List.ext_getElem? fun j => ?_
  by_cases hj : j ∈ vs
  · rw [wipe_in hj, wipe_in hj, hl]
  · rw [wipe_out hj, h j (fun z => hj (hi j z))]
section
variable {c : Ct} {σ σ' : Sg} {H H1 H2 H' Hs : Hp} {e e1 e2 e' : ES} {v : V}
/-- other slots: forgotten ones, ones as before, and data that stand -/
theorem Rel.resl (R : Rel c σ H e) {sl' : List Sl} (hl : σ'.length = sl'.length)
    (h : ∀ (j : Nat) (s : Sl), sl'[j]? = some s → s = Sl.un ∨ (e.sl[j]? = some s ∧ σ'[j]? = σ[j]?) ∨ ∃ (x : D) (v : V), s = Sl.d x ∧ σ'[j]? = some (some v) ∧ Dq c.K (hid (OO c σ e.sl) H) v x) :
    Rel c σ' H ⟨sl', e.tp⟩ ∧ ∀ a, OO c σ' sl' a → OO c σ e.sl a := by
  have own : ∀ (j : Nat) (xs : Bx), sl'[j]? = some xs.sl → e.sl[j]? = some xs.sl ∧ σ'[j]? = σ[j]? := fun j xs hj => by
    rcases h j _ hj with z | z | ⟨x, v, z, _⟩
    · cases xs <;> cases z
    · exact z
    · cases xs <;> cases z
  have sub : ∀ a, OO c σ' sl' a → OO c σ e.sl a := fun a q => by
    rcases q with q | ⟨j, xs, h1, h2⟩
    · exact .inl q
    · obtain ⟨h3, h4⟩ := own j xs h1
      exact .inr ⟨j, xs, h3, h4.symm.trans h2⟩
  have hs : Same (hid (OO c σ e.sl) H) (hid (OO c σ' sl') H) := hid_same (fun a q => .inl (sub a q)) fun _ _ _ h => h
  refine ⟨⟨hl, R.ok, R.tpc, R.ext, fun j s hj => ?_, fun i j xs ys a h1 h2 h3 h4 => ?_, fun τ hτ => ?_⟩, sub⟩
  · rcases h j s hj with rfl | ⟨h1, h2⟩ | ⟨x, v, rfl, h1, h2⟩
    · exact True.intro
    · have z := R.slots j s h1
      cases s with
      | un => exact True.intro
      | d x => obtain ⟨v, g1, g2⟩ := z; exact ⟨v, h2.trans g1, dp_mono hs g2⟩
      | own ys => obtain ⟨a, vs, g1, g2, g3, g4⟩ := z; exact ⟨a, vs, h2.trans g1, g2, g3, dpAll_mono hs g4⟩
      | dct ys => obtain ⟨a, o, vs, g1, g2, g3, g4, g5⟩ := z; exact ⟨a, o, vs, h2.trans g1, g2, g3, g4, dpKv_mono hs g5⟩
      | tape => exact h2.trans z
    · exact ⟨v, h1, dp_mono hs h2⟩
  · obtain ⟨k1, k2⟩ := own i xs h1
    obtain ⟨k3, k4⟩ := own j ys h2
    exact R.inj i j xs ys a k1 k3 (k2.symm.trans h3) (k4.symm.trans h4)
  · obtain ⟨l, h1, h2⟩ := R.tp τ hτ
    exact ⟨l, h1, dp_mono hs h2⟩
theorem Rel.wipe (R : Rel c σ H e) (vs : List Nat) : Rel c (L2.wipe σ vs) H (wipeE vs e) ∧ ∀ a, OO c (L2.wipe σ vs) (wipeSl e.sl vs) a → OO c σ e.sl a :=
  R.resl (by rw [wipe_length, wipeSl_len]; exact R.len) fun j s hj => by
    rcases wipeSl_get hj with h | ⟨h1, h2⟩
    · exact .inl h
    · exact .inr (.inl ⟨h2, wipe_out h1⟩)
/-- the list at p has grown -/
theorem Rel.replus {p : Addr} {vs ws : List V} (R : Rel (c.plus p vs) σ H e) (hc : c.tp = true → p ≠ c.t) : Rel (c.plus p ws) σ (upd H p (.lst ws)) e := by
  have eO : ∀ a, OO (c.plus p ws) σ e.sl a ↔ OO (c.plus p vs) σ e.sl a := fun a => (OO.plus a).trans (OO.plus a).symm
  have hs : Same (hid (OO (c.plus p vs) σ e.sl) H) (hid (OO (c.plus p ws) σ e.sl) (upd H p (.lst ws))) := hid_same (fun a q => .inl ((eO a).mp q)) fun a o n h => by
    rw [upd_ne (fun z => n (by subst z; exact (OO.plus _).mpr (.inr rfl)))]
    exact h
  refine ⟨R.len, ⟨fun a q => ?_, R.ok.hot⟩, R.tpc, fun a o h z => ?_, fun j s hj => ?_, R.inj, fun τ hτ => ?_⟩
  · show upd c.H0 p (.lst ws) a ≠ none
    by_cases w : a = p
    · subst w; rw [upd_same]; exact Option.some_ne_none _
    · rw [upd_ne w]
      have := R.ok.out a q
      have h2 : upd c.H0 p (.lst vs) a ≠ none := this
      rwa [upd_ne w] at h2
  · by_cases w : a = p
    · subst w
      have h' : upd c.H0 a (.lst ws) a = some o := h
      rw [upd_same] at h'; cases h'
      exact upd_same
    · rw [upd_ne w]
      have h' : upd c.H0 p (.lst ws) a = some o := h
      rw [upd_ne w] at h'
      refine R.ext a o ?_ z
      show upd c.H0 p (.lst vs) a = some o
      rw [upd_ne w]; exact h'
  · have z := R.slots j s hj
    cases s with
    | un => exact True.intro
    | d x => obtain ⟨v, h1, h2⟩ := z; exact ⟨v, h1, dp_mono hs h2⟩
    | own ys =>
      obtain ⟨a, us, h1, h2, h3, h4⟩ := z
      have h2' : upd c.H0 p (.lst vs) a = none := h2
      have w : a ≠ p := fun w => by subst w; rw [upd_same] at h2'; cases h2'
      rw [upd_ne w] at h2'
      exact ⟨a, us, h1, by show upd c.H0 p (.lst ws) a = none; rw [upd_ne w]; exact h2', by rw [upd_ne w]; exact h3, dpAll_mono hs h4⟩
    | dct ys =>
      obtain ⟨a, ob, us, h1, h2, h3, h4, h5⟩ := z
      have h2' : upd c.H0 p (.lst vs) a = none := h2
      have w : a ≠ p := fun w => by subst w; rw [upd_same] at h2'; cases h2'
      rw [upd_ne w] at h2'
      exact ⟨a, ob, us, h1, by show upd c.H0 p (.lst ws) a = none; rw [upd_ne w]; exact h2', by rw [upd_ne w]; exact h3, h4, dpKv_mono hs h5⟩
    | tape => exact z
  · obtain ⟨l, h1, h2⟩ := R.tp τ hτ
    have ht : c.tp = true := by have := R.tpc; rw [hτ] at this; exact this.symm
    exact ⟨l, by show upd H p (.lst ws) c.t = _; rw [upd_ne (fun z => hc ht z.symm)]; exact h1, dp_mono hs h2⟩
theorem Rel.pin_lePlus {p : Addr} {ws : List V} (R0 : Rel c σ Hs e) (hp : Hs p = none) (R : Rel ((c.pin σ e Hs).plus p ws) σ' H e') : Same (hid (OO c σ e.sl) Hs) (hid (OO ((c.pin σ e Hs).plus p ws) σ' e'.sl) H) := fun a o h => by
  obtain ⟨n, h⟩ := hid_some h
  have hne : a ≠ p := fun z => by subst z; rw [hp] at h; cases h
  have hq : ((c.pin σ e Hs).plus p ws).H0 a = some o := by
    show upd (c.pin σ e Hs).H0 p (.lst ws) a = some o
    rw [upd_ne hne]
    exact pin_of h fun q => n q.1
  refine hid_of (fun q => ?_) (R.ext a o hq fun z w => n (.inl (w ▸ R0.ok.hot z)))
  rcases q with q | ⟨j, xs, h1, h2⟩
  · rcases q with q | q
    · exact n (.inl q)
    · exact hne q
  · obtain ⟨b, vs, g1, g2, _⟩ := (R.slots j _ h1).mine
    rw [h2] at g1; cases g1
    rw [hq] at g2; cases g2
end
section
variable {X : Cx} {elt tg iter : Expr} {ifs : List Expr} {fi : FL} {gt : FG} {ft : FT} {fe : FX} {is vs : List Nat}
def tGx (K : PySem.W.Frag) (is : List Nat) (gt : FG) : TG := fun v σ H Q => ∃ c : Ct, c.K = K ∧ tG c is gt v σ H Q
def tTx (K : PySem.W.Frag) (ft : FT) : TT := fun σ H Q => ∃ c : Ct, c.K = K ∧ tT c ft σ H Q
def tDx (K : PySem.W.Frag) (fe : FX) : TE := fun σ H Q => ∃ c : Ct, c.K = K ∧ tD c fe σ H Q
theorem comp_core {K : PySem.W.Frag} {c : Ct} {σ : Sg} {H : Hp} {Q : VK} (hc : c.K = K) (hi : ∀ i ∈ is, i ∈ vs) (q : tL c (xComp vs fi gt ft fe) σ H Q) : tLc (tI c fi) (tGx K is gt) (tTx K ft) (tDx K fe) vs σ H Q := by
  subst hc
  obtain ⟨e, R, xs, e', he, q⟩ := q
  unfold xComp at he
  cases h1 : fi e with
  | none => rw [h1] at he; cases he
  | some p =>
  obtain ⟨ds, e1⟩ := p
  rw [h1] at he; dsimp only at he
  cases h2 : compLoop vs gt ft fe ds [] (wipeE vs e1) with
  | none => rw [h2] at he; cases he
  | some p =>
  obtain ⟨xs', e2⟩ := p
  rw [h2] at he
  cases he
  refine ⟨e, R, ds, e1, h1, fun J H1 S wk Da hD => ?_⟩
  have R1 := S.rel
  have Rp := R1.pin
  have hDt : c.tp = true → Da ≠ c.t := fun z w => by
    subst w; exact R1.hidden _ (.inl (R1.ok.hot z)) hD
  obtain ⟨Rw, sw⟩ := Rp.wipe vs
  refine ⟨fun i m H => ∃ ei acc ws, i ≤ ds.length ∧ m = ds.length - i ∧ Rel ((c.pin σ e1 H1).plus Da ws) (wipe σ vs) H ei ∧ H Da = some (.lst ws) ∧ DqAll c.K (hid (OO ((c.pin σ e1 H1).plus Da ws) (wipe σ vs) ei.sl) H) ws acc ∧
    (∀ a, OO c (wipe σ vs) ei.sl a → OO c σ e1.sl a) ∧ compLoop vs gt ft fe (ds.drop i) acc ei = some (xs, e2), ⟨_, wipeE vs e1, [], [], Nat.zero_le _, rfl, Rw.plus hD upd_same (same_upd hD), upd_same, .nil, sw, h2⟩, ?_⟩
  rintro i m H ⟨ei, acc, ws, hil, rfl, Ri, hDi, hacc, shi, hl⟩
  have w := wk (OO ((c.pin σ e1 H1).plus Da ws) (wipe σ vs) ei.sl) H (R1.pin_lePlus hD Ri) Ri.hidden
  by_cases hlt : i < ds.length
  · obtain ⟨d, hd⟩ : ∃ d, ds[i]? = some d := ⟨ds[i], by simp [hlt]⟩
    obtain ⟨w1, w2⟩ := w.2 i d hd
    refine .inr ⟨w1, fun H' => ∃ ei acc ws, Rel ((c.pin σ e1 H1).plus Da ws) (wipe σ vs) H' ei ∧ H' Da = some (.lst ws) ∧ DqAll c.K (hid (OO ((c.pin σ e1 H1).plus Da ws) (wipe σ vs) ei.sl) H') ws acc ∧
      (∀ a, OO c (wipe σ vs) ei.sl a → OO c σ e1.sl a) ∧ compLoop vs gt ft fe (ds.drop (i + 1)) acc ei = some (xs, e2), fun H' ⟨ei, acc, ws, a1, a2, a3, a4, a5⟩ => ⟨ds.length - (i + 1), by omega, ei, acc, ws, hlt, rfl, a1, a2, a3, a4, a5⟩, fun x H'' y => ?_⟩
    obtain ⟨sm, hx⟩ := w2 x H'' y
    have hdr : ds.drop i = d :: ds.drop (i + 1) := by
      rw [List.drop_eq_getElem_cons hlt]
      congr 1
      exact (List.getElem?_eq_some_iff.mp hd).2
    rw [hdr] at hl
    unfold compLoop at hl
    cases q2 : gt d ei with
    | none => rw [q2] at hl; cases hl
    | some ej =>
    rw [q2] at hl; dsimp only at hl
    refine ⟨(c.pin σ e1 H1).plus Da ws, rfl, ei, d, Ri.grow sm, hx, ej, q2, fun σ2 R2 k2 => ?_⟩
    have ew : wipe σ2 vs = wipe σ vs := wipe_eq hi k2.at_ k2.len
    refine ⟨ew, ?_⟩
    -- what stood at the turn's start
    have s2 : Same (hid (OO ((c.pin σ e1 H1).plus Da ws) (wipe σ vs) ei.sl) H) (hid (OO ((c.pin σ e1 H1).plus Da ws) σ2 ej.sl) H'') := hid_same (fun a z => .inl (k2.sh a z)) (fr_same sm)
    have toC : ∀ {σ' : Sg} {sl : List Sl} {a : Addr}, OO c σ' sl a → OO ((c.pin σ e1 H1).plus Da ws) σ' sl a := fun {σ' sl a} z => by
      rcases z with z | z
      · exact .inl (.inl z)
      · exact .inr z
    have ofC : ∀ {a : Addr}, OO ((c.pin σ e1 H1).plus Da ws) (wipe σ vs) ei.sl a → OO c (wipe σ vs) ei.sl a ∨ a = Da := fun {a} z => by
      rcases z with (z | z) | z
      · exact .inl (.inl z)
      · exact .inr z
      · exact .inl (.inr z)
    have notD : ∀ {σ' : Sg} {H' : Hp} {ek : ES}, Rel ((c.pin σ e1 H1).plus Da ws) σ' H' ek → ¬ OO c σ' ek.sl Da := fun {σ' H' ek} Rk z => by
      rcases z with z | ⟨j, ys, g1, g2⟩
      · exact R1.hidden Da (.inl z) hD
      · obtain ⟨b, us, k1, k2, _⟩ := (Rk.slots j _ g1).mine
        rw [g2] at k1; cases k1
        have k2' : upd (c.pin σ e1 H1).H0 Da (.lst ws) Da = none := k2
        rw [upd_same] at k2'; cases k2'
    cases q3 : ft ej with
    | none => rw [q3] at hl; cases hl
    | some p =>
    obtain ⟨b, ek⟩ := p
    rw [q3] at hl
    refine ⟨(c.pin σ e1 H1).plus Da ws, rfl, ej, R2, b, ek, q3, fun H3 S3 => ?_⟩
    cases b with
    | false =>
      dsimp only at hl
      refine iteF ?_
      obtain ⟨Rk, sk⟩ := S3.rel.wipe vs
      rw [ew] at Rk sk
      refine ⟨wipeE vs ek, acc, ws, Rk, ?_, ?_, fun a z => ?_, hl⟩
      · exact S3.rel.ext Da _ upd_same hDt
      · exact dpAll_mono (hid_same (fun a z => .inl (sk a z)) fun _ _ _ h => h) (dpAll_mono S3.same (dpAll_mono s2 hacc))
      · rcases ofC (k2.sh a (S3.shr a (sk a (toC z)))) with y | y
        · exact shi a y
        · subst y; exact absurd z (notD Rk)
    | true =>
      dsimp only at hl
      refine iteT ?_
      cases q4 : fe ek with
      | none => rw [q4] at hl; cases hl
      | some p =>
      obtain ⟨r, el⟩ := p
      rw [q4] at hl; dsimp only at hl
      cases q5 : fz r el with
      | none => rw [q5] at hl; cases hl
      | some p =>
      obtain ⟨y5, em⟩ := p
      rw [q5] at hl; dsimp only at hl
      split at hl
      · rename_i hz
        refine ⟨(c.pin σ e1 H1).plus Da ws, rfl, ek, S3.rel, r, el, q4, fun v4 H4 S4 hr => ?_⟩
        obtain ⟨S5, hd5⟩ := fz_ok S4.rel hr q5
        refine ⟨ws, S5.rel.ext Da _ upd_same hDt, ?_, ?_⟩
        · rw [dpAll_len hacc, sizeLine_eq]; omega
        · obtain ⟨Rk, sk⟩ := S5.rel.wipe vs
          rw [ew] at Rk sk
          have Rn := Rk.replus (ws := ws ++ [v4]) hDt
          refine ⟨wipeE vs em, acc ++ [y5], ws ++ [v4], Rn, upd_same, ?_, fun a z => ?_, hl⟩
          · have s6 : Same (hid (OO ((c.pin σ e1 H1).plus Da ws) σ2 em.sl) H4) (hid (OO ((c.pin σ e1 H1).plus Da (ws ++ [v4])) (wipe σ vs) (wipeE vs em).sl) (upd H4 Da (.lst (ws ++ [v4])))) := hid_same (fun a z => .inl (sk a ((OO.plus a).mpr ((OO.plus a).mp z)))) fun a o n h => by
              rw [upd_ne (fun z => n (by subst z; exact (OO.plus _).mpr (.inr rfl)))]
              exact h
            exact dpAll_app (dpAll_mono s6 (dpAll_mono S5.same (dpAll_mono S4.same (dpAll_mono S3.same (dpAll_mono s2 hacc))))) (.cons (dp_mono s6 hd5) .nil)
          · rcases ofC (k2.sh a (S3.shr a (S4.shr a (S5.shr a (sk a (toC z)))))) with y | y
            · exact shi a y
            · subst y; exact absurd z (notD Rk)
      · cases hl
  · have ei' : i = ds.length := by omega
    subst ei'
    rw [List.drop_length] at hl
    cases hl
    refine .inl ⟨w.1, ?_⟩
    have h0 : (c.pin σ e1 H1).H0 Da = none := Rp.fresh hD
    have Rc := R1.unpinPlus Ri h0 hDi
    obtain ⟨Rf, sf⟩ := Rc.resl (σ' := σ) (sl' := restoreSl e1.sl e2.sl vs) (by
      rw [restoreSl_len, ← Ri.len, wipe_length]) fun j s hj => by
        rcases restoreSl_get hj with z | ⟨z1, z2⟩ | ⟨z1, x, z2, z3⟩
        · exact .inl z
        · exact .inr (.inl ⟨z2, (wipe_out z1).symm⟩)
        · obtain ⟨v', g1, g2⟩ := R1.slots j _ z2
          exact .inr (.inr ⟨x, v', z3, g1, dp_mono (R1.pin_lePlus hD Ri) g2⟩)
    refine q Da ws H (R1.fresh hD) hDi Rf (fun a z => ?_) (fun a o n h => ?_) (dpAll_mono (hid_same (fun a z => .inl (sf a z)) fun _ _ _ h => h) hacc)
    · have z' : OO (c.plus Da ws) σ (restoreSl e1.sl e2.sl vs) a := (OO.plus a).mpr (.inl z)
      rcases (OO.plus a).mp (sf a z') with y | y
      · exact S.shr a (shi a y)
      · subst y
        rcases z with z | ⟨j, ys, g1, g2⟩
        · exact absurd hD (R1.hidden a (.inl z))
        · obtain ⟨b, us, k1, k2, _⟩ := (Rf.slots j _ g1).mine
          rw [g2] at k1; cases k1
          have k2' : upd c.H0 a (.lst ws) a = none := k2
          rw [upd_same] at k2'; cases k2'
    · have h1 := S.fr a o n h
      have n1 : ¬ OO c σ e1.sl a := fun z => n (S.shr a z)
      exact (hid_some (R1.pin_lePlus hD Ri a o (hid_of n1 h1))).2
end
end DD

namespace DD
open PySem PySem.Spec PyProof.Rows L2

/-! ### comprehensions, the rules -/
structure DTs (X : Cx) (xs : List Expr) (f : FT) : Prop where
  pts : ∀ c : Ct, c.K = X.K → PTs X xs (tT c f)
section
variable {X : Cx} {elt tg iter a b x : Expr} {ifs : List Expr} {fi : FL} {gt : FG} {ft : FT} {fe fa fb f : FX} {is vs : List Nat} {pos spos : Pos}
theorem pts_imp {X : Cx} {x : List Expr} {t t' : TT} (h : PTs X x t) (i : ∀ σ H Q, t' σ H Q → t σ H Q) : PTs X x t' := ⟨fun pins s σ H Q I q => h.run pins s σ H Q I (i σ H Q q)⟩
theorem dts_nil : DTs X [] tTrue := ⟨fun c hc => pts_imp pts_nil fun σ H Q q => by
  obtain ⟨e, R, b, e', he, q⟩ := q
  cases he
  exact q H (Stp.refl R)⟩
theorem dts_one (h : DT X a ft) : DTs X [a] ft := ⟨fun c hc => pts_one (h.pt c hc)⟩
theorem dl_comp {scope : Scope} (own : List (Str × Nat)) (hN : X.N.Nodup) (hi : DI X tg iter fi) (ok : BlkOk X.N X.env.scope scope own) (hv : ∀ i ∈ is, i ∈ own.map (·.2))
    (hg : ∀ (s : Shared) (H : Hp) (C : Addr) (cl : List (Str × Addr)) (fp : List Addr), DG (X.blk s H scope (compEnvC scope cl C X.env) fp) tg is gt) (ht : ∀ (s : Shared) (H : Hp) (C : Addr) (cl : List (Str × Addr)) (fp : List Addr), DTs (X.blk s H scope (compEnvC scope cl C X.env) fp) ifs ft)
    (he : ∀ (s : Shared) (H : Hp) (C : Addr) (cl : List (Str × Addr)) (fp : List Addr), DE (X.blk s H scope (compEnvC scope cl C X.env) fp) elt fe) (hs : ∀ x, foldedSetIterable iter X.env x = pure x := by intro _; rfl) (hc : X.calm = true := by rfl) :
    DL X (.ListComp elt [⟨tg, iter, ifs, 0⟩] scope pos) (xComp (own.map (·.2)) fi gt ft fe) :=
  ⟨fun c hk => pe_imp (pe_lc hc hN (hi.pi c hk) ok (g := tGx X.K is gt) (tt := tTx X.K ft) (te := tDx X.K fe)
    (fun s H C cl fp => ⟨fun pins s' σ H' v u Q I r ⟨c', h1, h2⟩ => ((hg s H C cl fp).pg c' h1).run pins s' σ H' v u Q I r h2⟩)
    (fun s H C cl fp => ⟨fun pins s' σ H' Q I ⟨c', h1, h2⟩ => ((ht s H C cl fp).pts c' h1).run pins s' σ H' Q I h2⟩)
    (fun s H C cl fp => ⟨fun pins s' σ H' Q I ⟨c', h1, h2⟩ => ((he s H C cl fp).pe c' h1).run pins s' σ H' Q I h2⟩) hs) fun σ H Q q => comp_core hk hv q⟩
/-- y = [..], y a plain local -/
theorem ds_ownC (i : Nat) {y : Str} {py : Pos} {scope : Scope} (own : List (Str × Nat)) (hN : X.N.Nodup) (hi : DI X tg iter fi) (ok : BlkOk X.N X.env.scope scope own) (hv : ∀ i ∈ is, i ∈ own.map (·.2))
    (hg : ∀ (s : Shared) (H : Hp) (C : Addr) (cl : List (Str × Addr)) (fp : List Addr), DG (X.blk s H scope (compEnvC scope cl C X.env) fp) tg is gt) (ht : ∀ (s : Shared) (H : Hp) (C : Addr) (cl : List (Str × Addr)) (fp : List Addr), DTs (X.blk s H scope (compEnvC scope cl C X.env) fp) ifs ft)
    (he : ∀ (s : Shared) (H : Hp) (C : Addr) (cl : List (Str × Addr)) (fp : List Addr), DE (X.blk s H scope (compEnvC scope cl C X.env) fp) elt fe) (hs : ∀ x, foldedSetIterable iter X.env x = pure x := by intro _; rfl) (hc : X.calm = true := by rfl)
    (hy : X.N[i]? = some y := by rfl) (hyl : X.env.scope.names.lookup y = some .local := by rfl) (hk : X.env.scope.kind = .function := by rfl) (hl : (py.line == pos.line) = true := by rfl)
    (ha : (scope.names.any fun (n, k) => n == y && (k == .local || k == .cell)) = false := by decide +kernel) :
    DS X (.Assign [.Name y py] (.ListComp elt [⟨tg, iter, ifs, 0⟩] scope pos) spos) (gOwn i (xComp (own.map (·.2)) fi gt ft fe)) :=
  ⟨fun c hk' => ps_imp (ps_setLc hc hN hy hyl (sw_true hk hyl hl ha) (hi.pi c hk') ok (g := tGx X.K is gt) (tt := tTx X.K ft) (te := tDx X.K fe)
    (fun s H C cl fp => ⟨fun pins s' σ H' v u Q I r ⟨c', h1, h2⟩ => ((hg s H C cl fp).pg c' h1).run pins s' σ H' v u Q I r h2⟩)
    (fun s H C cl fp => ⟨fun pins s' σ H' Q I ⟨c', h1, h2⟩ => ((ht s H C cl fp).pts c' h1).run pins s' σ H' Q I h2⟩)
    (fun s H C cl fp => ⟨fun pins s' σ H' Q I ⟨c', h1, h2⟩ => ((he s H C cl fp).pe c' h1).run pins s' σ H' Q I h2⟩) hs) fun Z σ H q => by
      obtain ⟨e, R, o, e', he', q⟩ := q
      unfold gOwn at he'
      cases q1 : xComp (own.map (·.2)) fi gt ft fe e with
      | none => rw [q1] at he'; cases he'
      | some p =>
        obtain ⟨xs, e1⟩ := p
        rw [q1] at he'; cases he'
        exact comp_core hk' hv ⟨e, R, xs, e1, q1, fun p vs H' h0 hp R' _ _ hd => q _ H' (R'.setOwn R.ok h0 hp hd)⟩⟩

/-! ### a[i] -/
def gIx : D → D → Option D
  | .list xs, .int i => atI xs i
  | .tuple xs, .int i => atI xs i
  | .str z, .int i => if z.length ≤ 16000000 then (atI z.cps.toList i).map fun c => .str ⟨#[c]⟩ else none
  | _, _ => none
theorem atI_dp {K : PySem.W.Frag} {H : Hp} {vs : List V} {ds : List D} {i : Int} {d : D} (h : DqAll K H vs ds) (e : atI ds i = some d) : ∃ v, atI vs i = some v ∧ Dq K H v d := by
  unfold atI at e ⊢
  rw [dpAll_len h]
  cases q : ixN ds.length i with
  | none => rw [q] at e; cases e
  | some j =>
    rw [q] at e
    obtain ⟨v, h1, h2⟩ := dpAll_get h (i := j) e
    exact ⟨v, h1, h2⟩
theorem opd_ix {K : PySem.W.Frag} : OpD K (rIx K) gIx := by
  intro O H v w a b d Q ho ha hb hg q
  unfold gIx at hg
  split at hg
  · obtain ⟨p, vs, rfl, h1, h2⟩ := ha.list
    have := hb.int; subst this
    obtain ⟨u, h3, h4⟩ := atI_dp h2 hg
    exact .inl ⟨p, vs, _, u, rfl, rfl, .inl (.of h1), h3, q u H (fun _ _ h => h) h4⟩
  · obtain ⟨p, vs, rfl, h1, h2⟩ := ha.tup
    have := hb.int; subst this
    obtain ⟨u, h3, h4⟩ := atI_dp h2 hg
    exact .inr (.inl ⟨p, vs, _, u, rfl, rfl, h1, h3, q u H (fun _ _ h => h) h4⟩)
  · have := ha.str; subst this
    have := hb.int; subst this
    split at hg
    · rename_i z i hz
      obtain ⟨c, h3, rfl⟩ := Option.map_eq_some_iff.mp hg
      exact .inr (.inr ⟨z, i, c, rfl, rfl, big16 hz, h3, q _ H (fun _ _ h => h) (.str _)⟩)
    · cases hg
  · cases hg
theorem de_ix (ha : DE X a fa) (hb : DE X b fb) (hs : PlainIx b := by intro _ _; rfl) : DE X (.Subscript a b pos) (xBin gIx fa fb) :=
  ⟨fun c hc => pe_imp (pe_ix ix_seq (ha.pe c hc) (hb.pe c hc) hs) fun _ _ _ q => bin_imp opd_ix hc q⟩

/-! ### the tape -/
def Tp.get (τ : Tp) : Nat → Option D
  | 0 => some (.list (τ.cells.map .int))
  | 1 => some (.int τ.pos)
  | 2 => some (.int τ.cur)
  | _ => none
def Tp.put (τ : Tp) (k : Nat) (i : Int) : Option Tp := match k with
  | 1 => some ⟨τ.cells, i, τ.cur⟩
  | 2 => some ⟨τ.cells, τ.pos, i⟩
  | _ => none
def xTp (i k : Nat) : FX := fun e => match e.sl[i]?, e.tp with
  | some .tape, some τ => (τ.get k).map fun d => (.d d, e)
  | _, _ => none
def gTp (i k : Nat) (f : FX) : FS := fun e => match f e with
  | some (.d (.int n), e1) => (match e1.sl[i]?, e1.tp with
    | some .tape, some τ => (match τ.put k n with
      | some τ' => some (.nx, ⟨e1.sl, some τ'⟩)
      | none => none)
    | _, _ => none)
  | _ => none
theorem nat_ix3 {k : Nat} (h : k < 3) {l : Addr} {p q : Int} : ixN [V.ref l, V.int p, V.int q].length (k : Int) = some k := by
  have : k = 0 ∨ k = 1 ∨ k = 2 := by omega
  rcases this with rfl | rfl | rfl <;> rfl
theorem de_tp (i : Nat) (k : Nat) {t : Str} {p1 p2 : Pos} {j} (hN : X.N[i]? = some t := by rfl) (hv : Vis X.env.scope t := by first | exact Or.inl rfl | exact Or.inr (Or.inl rfl) | exact Or.inr (Or.inr rfl)) (hd : (t == ("__debug__" : Str)) = false := by decide)
    (hcd : (t == ("__classdict__" : Str)) = false := by decide) (hs : PlainIx (.Constant (.int (k : Int)) j p2) := by intro _ _; rfl) : DE X (.Subscript (.Name t p1) (.Constant (.int (k : Int)) j p2) pos) (xTp i k) := by
  refine ⟨fun c hc => pe_imp (pe_ix ix_seq (pe_var hN hv hd hcd) pe_int hs) fun σ H Q q => ?_⟩
  obtain ⟨e, R, r, e', he, q⟩ := q
  unfold xTp at he
  split at he
  · rename_i τ h1 h2
    obtain ⟨d, h3, h4⟩ := Option.map_eq_some_iff.mp he
    cases h4
    have z := R.slots i _ h1
    refine ⟨_, z, ?_⟩
    obtain ⟨l, g1, g2⟩ := R.tp τ h2
    refine .inl ⟨c.t, [.ref l, .int τ.pos, .int τ.cur], (k : Int), ?_⟩
    match k, h3 with
    | 0, h3 => cases h3; exact ⟨_, rfl, rfl, .inl (.of g1), rfl, q _ H (Stp.refl R) g2⟩
    | 1, h3 => cases h3; exact ⟨_, rfl, rfl, .inl (.of g1), rfl, q _ H (Stp.refl R) (.int _)⟩
    | 2, h3 => cases h3; exact ⟨_, rfl, rfl, .inl (.of g1), rfl, q _ H (Stp.refl R) (.int _)⟩
  · cases he
theorem ds_tp (i : Nat) (k : Nat) {t : Str} {e : Expr} {p1 p2 p3 : Pos} {j} (h : DE X e f) (hN : X.N[i]? = some t := by rfl) (hv : Vis X.env.scope t := by first | exact Or.inl rfl | exact Or.inr (Or.inl rfl) | exact Or.inr (Or.inr rfl)) (hd : (t == ("__debug__" : Str)) = false := by decide)
    (hcd : (t == ("__classdict__" : Str)) = false := by decide) (hs : swapsWithSole [.Subscript (.Name t p1) (.Constant (.int (k : Int)) j p2) p3] e pos.line X.env = pure false := by rfl) (hw : swappedStores [.Subscript (.Name t p1) (.Constant (.int (k : Int)) j p2) p3] e X.env = pure none := by rfl)
    (h1 : (assignEach [.Subscript (.Name t p1) (.Constant (.int (k : Int)) j p2) p3] X.env).map (·.2) = [assign (.Subscript (.Name t p1) (.Constant (.int (k : Int)) j p2) p3) X.env] := by rfl)
    (ha : ∀ v, assign (.Subscript (.Name t p1) (.Constant (.int (k : Int)) j p2) p3) X.env v = (do
      let ov ← holding [v] (eval (.Name t p1) X.env)
      let iv ← holding [v, ov] (eval (.Constant (.int (k : Int)) j p2) X.env)
      standAt p3
      holding [v, ov, iv] (setItem ov iv v)
      release [v, ov, iv] []) := by intro _; rfl) : DS X (.Assign [.Subscript (.Name t p1) (.Constant (.int (k : Int)) j p2) p3] e pos) (gTp i k f) := by
  refine ⟨fun c hc => ps_imp (ps_asg (h.pe c hc) (pg_sub (pe_var hN hv hd hcd) pe_int set_list ha) hs hw h1) fun Z σ H q => ?_⟩
  obtain ⟨e0, R, o, e', he, q⟩ := q
  unfold gTp at he
  split at he
  · rename_i n e1 hf
    split at he
    · rename_i τ h2 h3
      cases h4 : τ.put k n with
      | none => rw [h4] at he; cases he
      | some τ' =>
      rw [h4] at he
      cases he
      refine ⟨e0, R, _, e1, hf, fun v H1 S hv' => ?_⟩
      cases hv' with
      | int =>
      refine ⟨_, S.rel.slots i _ h2, ?_⟩
      obtain ⟨l, g1, g2⟩ := S.rel.tp τ h3
      have htp : c.tp = true := by rw [← S.rel.tpc, h3]; rfl
      have hk : k < 3 := by
        match k, h4 with
        | 1, _ => omega
        | 2, _ => omega
      refine ⟨c.t, _, (k : Int), k, rfl, rfl, g1, nat_ix3 hk, q σ _ ?_⟩
      have hO := S.rel.ok.hot htp
      refine (Stp.tape S.rel (τ' := τ') htp (fun a o n h => by rw [upd_ne n]; exact h) ⟨l, ?_, ?_⟩).rel
      · rw [upd_same]
        match k, h4 with
        | 1, h4 => cases h4; rfl
        | 2, h4 => cases h4; rfl
      · have : τ'.cells = τ.cells := by
          match k, h4 with
          | 1, h4 => cases h4; rfl
          | 2, h4 => cases h4; rfl
        rw [this]
        refine dp_mono (hid_same (fun _ z => .inl z) fun a o n h => ?_) g2
        rw [upd_ne (fun z => n (by subst z; exact .inl hO))]; exact h
    · cases he
  · cases he
end
end DD

namespace DD
open PySem PySem.Spec PyProof.Rows L2

/-! ### the law itself -/
def spLaw (K : PySem.W.Frag) : Sp := fun vs H Q _ => ∃ (a : Addr) (ns : List Int), vs = [.ref a] ∧ ns.length ≤ 63 ∧ SqL K H a (ns.map V.int) ∧ ∀ H', Q (.bl true) H'
def startLaw (n : Nat) (ns : List Int) : ES := ⟨.un :: .tape :: List.replicate (n - 2) .un, some ⟨ns, 0, 0⟩⟩
abbrev rListC (K : PySem.W.Frag) : List V → Hp → VK → Prop := fun xs H Q => ∃ p ys, xs = [.ref p] ∧ (SqL K H p ys ∨ SqT K H p ys) ∧ ∀ l, H l = none → Q (.ref l) (upd H l (.lst ys))
def tTape (K : PySem.W.Frag) : TS := tAsg (tLst (tCons (tCB (rListC K) (tCons (tVar 0) tNil)) (tCons (tC (.int 0)) (tCons (tC (.int 0)) tNil)))) (gName 1)
section
variable {P : Program} {w : World} {K : PySem.W.Frag} {mg : Str → Option Value} {base : Heap} {x qual : Str} {params : Arguments} {body : List Stmt} {scope : Scope} {f : Addr} {fd : FuncData} {CX : CXT} {N : List Str} {k n : Nat} {g : FS} {st : Stmt}
theorem getlaw {n : Nat} {ns : List Int} {i : Nat} {s : Sl} (h : (startLaw n ns).sl[i]? = some s) : s = .un ∨ (i = 1 ∧ s = .tape) := by
  unfold startLaw at h
  dsimp only at h
  match i with
  | 0 => simp at h; exact .inl h.symm
  | 1 => simp at h; exact .inr ⟨rfl, h.symm⟩
  | i + 2 =>
    rw [List.getElem?_cons_succ, List.getElem?_cons_succ, List.getElem?_replicate] at h
    split at h
    · cases h; exact .inl rfl
    · cases h
theorem rel_law {H1 H2 : Hp} {a t l : Addr} {ns : List Int} (hn : N.length = n) (h2 : 2 ≤ n) (hl : H1 l = some (.lst (ns.map V.int))) (ht : H1 t = none) (e2 : H2 = upd H1 t (.lst [.ref l, .int 0, .int 0])) :
    Rel ⟨K, fun b => b = t, t, true, H2⟩ ((start N [.ref a]).set 1 (some (.ref t))) H2 (startLaw n ns) := by
  subst e2
  have noown : ∀ (i : Nat) (xs : Bx), (startLaw n ns).sl[i]? ≠ some xs.sl := fun i xs h => by
    rcases getlaw h with h | ⟨_, h⟩ <;> cases xs <;> cases h
  have nlt : l ≠ t := fun z => by subst z; rw [ht] at hl; cases hl
  refine ⟨?_, ⟨fun b z => ?_, fun _ => rfl⟩, rfl, fun b o h _ => h, fun i s hi => ?_, fun i j xs ys b h => absurd h (noown i xs), fun τ hτ => ?_⟩
  · rw [List.length_set]
    unfold L2.start startLaw
    dsimp only
    simp only [List.length_append, List.length_map, List.length_replicate, List.length_cons, List.length_nil]
    omega
  · have z' : b = t := z
    subst z'
    show upd H1 b _ b ≠ none
    rw [upd_same]; exact Option.some_ne_none _
  · rcases getlaw hi with h | ⟨rfl, h⟩
    · subst h; exact True.intro
    · subst h
      refine List.getElem?_set_self ?_
      unfold L2.start
      simp only [List.length_append, List.length_map, List.length_replicate, List.length_cons, List.length_nil]
      omega
  · cases hτ
    refine ⟨l, upd_same, .lst (hid_of ?_ ?_) (dpAll_ints ns)⟩
    · rintro (z | ⟨i, xs, z, _⟩)
      · exact nlt z
      · exact noown i xs z
    · rw [upd_ne nlt]; exact hl
theorem fn_law {dvs : List V} {kws : List (Str × V)} {rest : List Stmt} (F : FunD K x qual params (st :: rest) scope dvs kws f fd) (S : FnScope N ["script"] scope) (hn : N.length = n) (h2 : 2 ≤ n)
    (hs : ∀ (cdv : Value) (A : Around) (outer : List Env) (s : Shared) (H : Hp) (E : XK), PS (cxOf CX P w K mg base N qual scope f cdv A outer s H E).nox st (tTape K))
    (hb : BodyOk P w K mg base CX N qual scope f k rest g) (hg : ∀ ns : List Int, ns.length ≤ 63 → ∃ e, g (startLaw n ns) = some (.rt (.d (.bool true)), e)) :
    FnOk P w K mg base CX (k + 1) f fd ["script"] (spLaw K) := by
  refine F.ok S (fun vs H Q E h => ?_) (fun cdv A outer s H vs Q E hr h => ?_)
  · obtain ⟨a, ns, rfl, _⟩ := h; rfl
  · obtain ⟨a, ns, rfl, hl, hS, q⟩ := h
    obtain ⟨e, he⟩ := hg ns hl
    -- the list's and the tape's place come out of the walk: the rest for every such place
    refine ⟨tSeq (tTape K) (fun Z σ H => ∃ c : Ct, c.K = K ∧ tS c g Z σ H), PSs.nox (pss_cons (hs cdv A outer s H E) ⟨fun pins s' σ H' D I ⟨c, h1, h2⟩ => ((hb cdv A outer s H E hr).pb c h1).run pins s' σ H' D I h2⟩), ?_⟩
    refine ⟨_, rfl, a, _, rfl, .inl hS, fun l hl0 => ?_⟩
    refine ⟨by rw [sizeLine_eq]; show 3 ≤ _; omega, fun t ht => ?_⟩
    refine ⟨_, rfl, _, rel_law (K := K) hn h2 (l := l) upd_same ht rfl, _, e, he, fun σ' v H' R hv => ?_⟩
    cases hv
    exact q H'
end
end DD

namespace DD
open PySem PySem.Spec PyProof.Rows L2

/-! ### slices -/
abbrev FO := ES → Option (Option Int × ES)
def tO (c : Ct) (f : FO) : TO := fun σ H Q => ∃ e, Rel c σ H e ∧ ∃ o e', f e = some (o, e') ∧ ∀ H', Stp c σ e H e' H' → Q o H'
structure DO (X : Cx) (x : Option Expr) (f : FO) : Prop where
  po : ∀ c : Ct, c.K = X.K → PO X x (tO c f)
def oNone : FO := fun e => some (none, e)
def oSome (f : FX) : FO := fun e => match f e with
  | some (.d (.int i), e1) => some (some i, e1)
  | _ => none
def cutD (xs : List D) (lo hi : Option Int) : List D := (xs.drop (HT.sIx xs.length 0 lo)).take (HT.sIx xs.length xs.length hi - HT.sIx xs.length 0 lo)
def gSl : D → Option Int → Option Int → Option D
  | .tuple xs, lo, hi => some (.tuple (cutD xs lo hi))
  | .str z, lo, hi => if z.length ≤ 16000000 then some (.str (cutS z lo hi)) else none
  | _, _, _ => none
def gSlL : D → Option Int → Option Int → Option (List D)
  | .list xs, lo, hi => some (cutD xs lo hi)
  | _, _, _ => none
def xSl (fe : FX) (fl fh : FO) : FX := fun e => match fe e with
  | some (r, e1) => (match fl e1 with
    | some (lo, e2) => (match fh e2 with
      | some (hi, e3) => (match rd e3 r with
        | some d => (match gSl d lo hi with
          | some x => some (.d x, e3)
          | none => none)
        | none => none)
      | none => none)
    | none => none)
  | none => none
def xSlL (fe : FX) (fl fh : FO) : FL := fun e => match fe e with
  | some (r, e1) => (match fl e1 with
    | some (lo, e2) => (match fh e2 with
      | some (hi, e3) => (match rd e3 r with
        | some d => (match gSlL d lo hi with
          | some x => some (x, e3)
          | none => none)
        | none => none)
      | none => none)
    | none => none)
  | none => none
theorem cut_dp {K : PySem.W.Frag} {H : Hp} {vs : List V} {ds : List D} (lo hi : Option Int) (h : DqAll K H vs ds) : DqAll K H (cutV vs lo hi) (cutD ds lo hi) := by
  unfold cutV cutD
  rw [dpAll_len h]
  exact dpAll_take _ (dpAll_drop _ h)
section
variable {X : Cx} {a b d x : Expr} {fa fb fd f : FX} {pos p2 : Pos} {lo hi : Option Expr} {fl fh : FO}
theorem po_imp {X : Cx} {x : Option Expr} {t t' : TO} (h : PO X x t) (i : ∀ σ H Q, t' σ H Q → t σ H Q) : PO X x t' := ⟨fun pins s σ H Q I q => h.run pins s σ H Q I (i σ H Q q)⟩
theorem do_none : DO X none oNone := ⟨fun c hc => po_imp po_none fun σ H Q q => by
  obtain ⟨e, R, o, e', he, q⟩ := q
  cases he
  exact q H (Stp.refl R)⟩
theorem do_some (h : DE X a fa) : DO X (some a) (oSome fa) := ⟨fun c hc => po_imp (po_some (h.pe c hc)) fun σ H Q q => by
  obtain ⟨e, R, o, e', he, q⟩ := q
  unfold oSome at he
  split at he
  · rename_i i e1 h1
    cases he
    refine ⟨e, R, _, _, h1, fun v H' S hv => ?_⟩
    cases hv
    exact ⟨i, rfl, q H' S⟩
  · cases he⟩
theorem de_sl (ha : DE X a fa) (hl : DO X lo fl) (hh : DO X hi fh) : DE X (.Subscript a (.Slice lo hi none p2) pos) (xSl fa fl fh) := by
  refine ⟨fun c hc => pe_imp (pe_slice ((sl_tupA (X := X)).or sl_str) (ha.pe c hc) (hl.po c hc) (hh.po c hc)) fun σ H Q q => ?_⟩
  obtain ⟨e, R, r, e', he, q⟩ := q
  unfold xSl at he
  cases h1 : fa e with
  | none => rw [h1] at he; cases he
  | some p =>
  obtain ⟨r1, e1⟩ := p
  rw [h1] at he; dsimp only at he
  cases h2 : fl e1 with
  | none => rw [h2] at he; cases he
  | some p =>
  obtain ⟨l, e2⟩ := p
  rw [h2] at he; dsimp only at he
  cases h3 : fh e2 with
  | none => rw [h3] at he; cases he
  | some p =>
  obtain ⟨u, e3⟩ := p
  rw [h3] at he; dsimp only at he
  cases h4 : rd e3 r1 with
  | none => rw [h4] at he; cases he
  | some d =>
  rw [h4] at he; dsimp only at he
  cases h5 : gSl d l u with
  | none => rw [h5] at he; cases he
  | some x =>
  rw [h5] at he; cases he
  refine ⟨e, R, r1, e1, h1, fun v H1 S1 hv => ⟨e1, S1.rel, l, e2, h2, fun H2 S2 => ⟨e2, S2.rel, u, _, h3, fun H3 S3 => ?_⟩⟩⟩
  have S := (S1.trans S2).trans S3
  have hb := RvR.rb S3.rel (RvR.step S3 (RvR.step S2 hv)) h4
  unfold gSl at h5
  split at h5
  · cases h5
    obtain ⟨p, vs, rfl, g1, g2⟩ := hb.tup
    refine .inl ⟨p, vs, rfl, (by rw [← hc]; exact g1), fun hw => ?_, fun hw p0 hp0 => ?_⟩
    · rename_i xs0
      have e0 : cutD xs0 l u = xs0 := by
        unfold cutD
        rw [← dpAll_len g2, hw.1, hw.2, Nat.sub_zero, List.drop_zero, dpAll_len g2, List.take_length]
      rw [e0] at q
      exact q _ H3 S (hb.data (fun _ z => nomatch z) fun _ z => nomatch z)
    · have sm : Same H3 (upd H3 p0 (.tup (cutV vs l u))) := same_upd hp0
      refine q _ _ (S.trans (Stp.grow S3.rel sm)) ?_
      exact new_tup S3.rel.hidden hp0 (cut_dp l u g2)
  · split at h5
    · rename_i hz
      cases h5
      have := hb.str; subst this
      exact .inr ⟨_, rfl, big16 hz, q _ H3 S (.str _)⟩
    · cases h5
  · cases h5
theorem dl_sl (ha : DE X a fa) (hl : DO X lo fl) (hh : DO X hi fh) : DL X (.Subscript a (.Slice lo hi none p2) pos) (xSlL fa fl fh) := by
  refine ⟨fun c hc => pe_imp (pe_slice sl_list (ha.pe c hc) (hl.po c hc) (hh.po c hc)) fun σ H Q q => ?_⟩
  obtain ⟨e, R, xs, e', he, q⟩ := q
  unfold xSlL at he
  cases h1 : fa e with
  | none => rw [h1] at he; cases he
  | some p =>
  obtain ⟨r1, e1⟩ := p
  rw [h1] at he; dsimp only at he
  cases h2 : fl e1 with
  | none => rw [h2] at he; cases he
  | some p =>
  obtain ⟨l, e2⟩ := p
  rw [h2] at he; dsimp only at he
  cases h3 : fh e2 with
  | none => rw [h3] at he; cases he
  | some p =>
  obtain ⟨u, e3⟩ := p
  rw [h3] at he; dsimp only at he
  cases h4 : rd e3 r1 with
  | none => rw [h4] at he; cases he
  | some d =>
  rw [h4] at he; dsimp only at he
  cases h5 : gSlL d l u with
  | none => rw [h5] at he; cases he
  | some x =>
  rw [h5] at he; cases he
  refine ⟨e, R, r1, e1, h1, fun v H1 S1 hv => ⟨e1, S1.rel, l, e2, h2, fun H2 S2 => ⟨e2, S2.rel, u, _, h3, fun H3 S3 => ?_⟩⟩⟩
  have S := (S1.trans S2).trans S3
  have hb := RvR.rb S3.rel (RvR.step S3 (RvR.step S2 hv)) h4
  unfold gSlL at h5
  split at h5
  · cases h5
    obtain ⟨p, vs, rfl, g1, g2⟩ := hb.list
    refine ⟨p, vs, rfl, .inl (.of g1), fun p0 hp0 => ?_⟩
    have sm : Same H3 (upd H3 p0 (.lst (cutV vs l u))) := same_upd hp0
    have Rp := S3.rel.plus (vs := cutV vs l u) hp0 upd_same sm
    refine q p0 _ _ (S3.rel.fresh hp0) upd_same Rp S.shr (fun a o n z => sm a o (S.fr a o n z)) (dpAll_mono (hid_same (fun a z => ?_) (fr_same sm)) (cut_dp l u g2))
    rcases (OO.plus a).mp z with z | z
    · exact .inl z
    · subst z; exact .inr hp0
  · cases h5

/-! ### a, b = x, y -/
def gPar (i j : Nat) (fa : FA) : FS := fun e => match fa e with
  | some (rs, e1) => (match fzs rs e1 with
    | some ([d1, d2], e2) => some (.nx, (e2.set i (.d d1)).set j (.d d2))
    | _ => none)
  | none => none
theorem ds_par (i j : Nat) {y z : Str} {a b : Expr} {fa : FA} {px py pt : Pos} {kt k2 pt2} (hN : X.N.Nodup) (ha : DA X [a, b] fa) (hij : i ≠ j := by decide) (hi : X.N[i]? = some y := by rfl) (hj : X.N[j]? = some z := by rfl)
    (hx : X.env.scope.names.lookup y = some .local := by rfl) (hy : X.env.scope.names.lookup z = some .local := by rfl)
    (hw : swappedStores [.Tuple [.Name y px, .Name z py] kt pt] (.Tuple [a, b] k2 pt2) X.env = pure (some [y, z]) := by rfl)
    (hs : swapsWithSole [.Tuple [.Name y px, .Name z py] kt pt] (.Tuple [a, b] k2 pt2) pos.line X.env = pure false := by rfl) (hc : X.calm = true := by rfl) :
    DS X (.Assign [.Tuple [.Name y px, .Name z py] kt pt] (.Tuple [a, b] k2 pt2) pos) (gPar i j fa) := by
  refine ⟨fun c hk => ps_imp (ps_par hc hN hi hj hij hx hy (ha.pa c hk) hw hs) fun Z σ H q => ?_⟩
  obtain ⟨e, R, o, e', he, q⟩ := q
  unfold gPar at he
  cases h1 : fa e with
  | none => rw [h1] at he; cases he
  | some p =>
  obtain ⟨rs, e1⟩ := p
  rw [h1] at he; dsimp only at he
  split at he
  · rename_i d1 d2 e2 h2
    cases he
    refine ⟨e, R, rs, e1, h1, fun vs H1 S hrs => ?_⟩
    obtain ⟨S2, hds⟩ := fzs_ok S.rel hrs h2
    match vs, hds with
    | [v, w], .cons k1 (.cons k2 .nil) =>
      refine ⟨v, w, rfl, q _ H1 ?_⟩
      have R1 := S2.rel.set (i := i) k1
      refine R1.set (i := j) (dp_mono (hid_same (fun a z => .inl (OO.set a z)) fun _ _ _ h => h) k2)
  · cases he

/-! ### name op= e, ints -/
def gAug (i : Nat) (g : Int → Int → Int) (f : FX) : FS := fun e => match e.sl[i]? with
  | some (.d (.int n)) => (match f e with
    | some (.d (.int m), e1) => some (.nx, e1.set i (.d (.int (g n m))))
    | _ => none)
  | _ => none
theorem ds_augI (i : Nat) {y : Str} {op : Operator} {g : Int → Int → Int} {pos' : Pos} (ho : PIp X op (ipI g)) (hN : X.N.Nodup) (h : DE X a f) (hi : X.N[i]? = some y := by rfl) (hx : Loc X.env.scope y := by first | exact Or.inl rfl | exact Or.inr rfl)
    (hf : X.fn y = true ∨ X.env.scope.names.lookup y = some .local := by first | exact .inl rfl | exact .inr rfl | assumption) : DS X (.AugAssign (.Name y pos') op a pos) (gAug i g f) := by
  refine ⟨fun c hk => ps_imp (ps_aug hN hi hx (h.pe c hk) ho hf) fun Z σ H q => ?_⟩
  obtain ⟨e, R, o, e', he, q⟩ := q
  unfold gAug at he
  split at he
  · rename_i n h0
    split at he
    · rename_i m e1 h1
      cases he
      obtain ⟨v, g1, g2⟩ := R.slots i _ h0
      refine ⟨v, g1, e, R, _, e1, h1, fun w H1 S hw => ?_⟩
      cases g2
      cases hw
      exact ⟨n, m, rfl, rfl, q _ H1 (S.rel.set (.int _))⟩
    · cases he
  · cases he

/-! ### a op b op' c -/
theorem chain_imp {r r' : R2} {g g' : D → D → Option D} {K : PySem.W.Frag} {c : Ct} {σ : Sg} {H : Hp} {Q : VK} (h1 : OpD K r g) (h2 : OpD K r' g') (hc : c.K = K) (hb : ∀ a b d, g a b = some d → ∃ k, d = .bool k) (q : tD c (xChain g g' fa fb fd) σ H Q) : tChain r r' (tD c fa) (tD c fb) (tD c fd) σ H Q := by
  subst hc
  obtain ⟨e, R, o, e', he, q⟩ := q
  unfold xChain at he
  cases q1 : fa e with
  | none => rw [q1] at he; cases he
  | some p =>
  obtain ⟨r1, e1⟩ := p
  rw [q1] at he; dsimp only at he
  cases q2 : fb e1 with
  | none => rw [q2] at he; cases he
  | some p =>
  obtain ⟨r2, e2⟩ := p
  rw [q2] at he; dsimp only at he
  cases q3 : rd e2 r1 with
  | none => rw [q3] at he; cases he
  | some d1 =>
  rw [q3] at he; dsimp only at he
  cases q4 : rd e2 r2 with
  | none => rw [q4] at he; cases he
  | some d2 =>
  rw [q4] at he; dsimp only at he
  refine ⟨e, R, r1, e1, q1, fun v H1 S1 hv => ⟨e1, S1.rel, r2, e2, q2, fun w H2 S2 hw => ?_⟩⟩
  have S := S1.trans S2
  have hb1 := RvR.rb S2.rel (RvR.step S2 hv) q3
  have hb2 := RvR.rb S2.rel hw q4
  cases q5 : g d1 d2 with
  | none => rw [q5] at he; cases he
  | some k0 =>
  obtain ⟨k, rfl⟩ := hb _ _ _ q5
  refine h1 _ H2 v w d1 d2 _ _ S2.rel.hidden hb1 hb2 q5 fun z H3 sm hz => ?_
  cases hz with
  | bl =>
  refine ⟨k, rfl, ?_⟩
  rw [q5] at he
  have S3 := S.trans (Stp.grow S2.rel sm)
  cases k with
  | false =>
    dsimp only at he
    cases he
    rw [if_neg (by decide)]
    exact q _ H3 S3 (.bl _)
  | true =>
    dsimp only at he
    rw [if_pos rfl]
    cases q6 : fd e2 with
    | none => rw [q6] at he; cases he
    | some p =>
    obtain ⟨r3, e3⟩ := p
    rw [q6] at he; dsimp only at he
    cases q7 : rd e3 r2 with
    | none => rw [q7] at he; cases he
    | some d2' =>
    rw [q7] at he; dsimp only at he
    cases q8 : rd e3 r3 with
    | none => rw [q8] at he; cases he
    | some d3 =>
    rw [q8] at he; dsimp only at he
    cases q9 : g' d2' d3 with
    | none => rw [q9] at he; cases he
    | some dz =>
    rw [q9] at he
    cases he
    refine ⟨e2, S3.rel, r3, _, q6, fun u H4 S4 hu => ?_⟩
    have hb3 := RvR.rb S4.rel (RvR.step S4 (RvR.step (Stp.grow S2.rel sm) hw)) q7
    have hb4 := RvR.rb S4.rel hu q8
    exact h2 _ H4 w u d2' d3 _ _ S4.rel.hidden hb3 hb4 q9 fun v' H5 sm5 hv' => q v' H5 (S3.trans (S4.trans (Stp.grow S4.rel sm5))) hv'
theorem de_chain {op op' : CmpOp} {r r' : R2} {g g' : D → D → Option D} (ho : OpR X (compareOp op) r) (ho' : OpR X (compareOp op') r') (h1 : OpD X.K r g) (h2 : OpD X.K r' g') (hb : ∀ a b d, g a b = some d → ∃ k, d = .bool k) (ha : DE X a fa) (hb' : DE X b fb) (hd : DE X d fd)
    (hm : lastMarks [op, op'] [b, d] = false := by with_unfolding_all rfl) : DE X (.Compare a [op, op'] [b, d] pos) (xChain g g' fa fb fd) :=
  ⟨fun c hc => pe_imp (pe_chain ho ho' (ha.pe c hc) (hb'.pe c hc) (hd.pe c hc) hm) fun σ H Q q => chain_imp h1 h2 hc hb q⟩
theorem dt_chain {op op' : CmpOp} {r r' : R2} {g g' : D → D → Option D} (ho : OpR X (compareOp op) r) (ho' : OpR X (compareOp op') r') (h1 : OpD X.K r g) (h2 : OpD X.K r' g') (hb : ∀ a b d, g a b = some d → ∃ k, d = .bool k) (ha : DE X a fa) (hb' : DE X b fb) (hd : DE X d fd)
    (hm : lastMarks [op, op'] [b, d] = false := by with_unfolding_all rfl) : DT X (.Compare a [op, op'] [b, d] pos) (tOf (xChain g g' fa fb fd)) :=
  ⟨fun c hc => pt_imp (pt_chain ho ho' (ha.pe c hc) (hb'.pe c hc) (hd.pe c hc) hm) fun σ H Q q => chain_imp h1 h2 hc hb (tof_imp q)⟩

/-! ### isinstance -/
def tyS : D → String
  | .none => "NoneType"
  | .bool _ => "bool"
  | .int _ => "int"
  | .str _ => "str"
  | .list _ => "list"
  | .tuple _ => "tuple"
  | .dict _ => "dict"
def isiB (s T : String) : Bool := s == T || (s == "bool" && T == "int")
def kits (T : String) : Prop := ∀ s ∈ ["NoneType", "bool", "int", "str", "list", "tuple"], kitB s T = some (isiB s T)
def notDct : D → Bool
  | .dict _ => false
  | _ => true
theorem tyx {K : PySem.W.Frag} {H : Hp} {v : V} {d : D} (h : Dq K H v d) (nd : notDct d = true) : TyX K H v (.type (tyS d)) := by
  cases h with
  | dct => cases nd
  | non => exact .base .non
  | bl b => exact .base (.bl b)
  | int i => exact .base (.int i)
  | str x => exact .base (.str x)
  | lst h _ => exact .base (.lst h)
  | tup h _ =>
    rcases h with (h | ⟨o, h⟩) | ⟨o, _, _, h, c, _⟩
    · exact .base (.tup h)
    · exact .fTuple h
    · exact .kTuple h c
theorem tyS_mem {K : PySem.W.Frag} {H : Hp} {v : V} {d : D} (h : Dq K H v d) (nd : notDct d = true) : tyS d ∈ ["NoneType", "bool", "int", "str", "list", "tuple"] := by
  cases h <;> first | (simp [tyS]; done) | cases nd
def xIsi (ts : List String) (fa : FX) : FX := fun e => match fa e with
  | some (r, e1) => (match rd e1 r with
    | some d => if notDct d = true then some (.d (.bool (ts.any (isiB (tyS d)))), e1) else none
    | none => none)
  | none => none
theorem kits_any {K : PySem.W.Frag} {d : D} (hd : tyS d ∈ ["NoneType", "bool", "int", "str", "list", "tuple"]) : ∀ {ts : List String}, (∀ T ∈ ts, kits T) → PySem.W.kitAny K (.type (tyS d)) (ts.map Value.type) = some (ts.any (isiB (tyS d)))
  | [], _ => rfl
  | T :: ts, h => by
    rw [List.map_cons, List.any_cons]
    refine kitAny_cons (kit_ty (h T (by simp) _ hd)) (fun e => ?_) (fun e => ?_)
    · rw [e, Bool.false_or]; exact kits_any hd fun T' m => h T' (by simp [m])
    · rw [e, Bool.true_or]
theorem kits_pair : ∀ (ts : List String), Paired ClsV (ts.map V.ty) (ts.map Value.type)
  | [] => .nil
  | T :: ts => .cons (.ty T) (kits_pair ts)
def tTys : List String → TA
  | [] => tNil
  | T :: ts => tCons (tC (.ty T)) (tTys ts)
theorem tTys_ok : ∀ {ts : List String} {σ : Sg} {H : Hp} {Q : List V → Hp → Prop}, Q (ts.map V.ty) H → tTys ts σ H Q
  | [], _, _, _, h => h
  | T :: ts, σ, H, Q, h => tTys_ok (ts := ts) (Q := fun xs H2 => Q (.ty T :: xs) H2) h
theorem de_isi {T : String} {x : Str} {p p' : Pos} (hT : kits T) (hm : X.mg "isinstance" = none) (ha : DE X a fa) (hT' : PE X (.Name x p') (tC (.ty T))) (hgl : Gl X "isinstance" := by rfl)
    (he : starEach [a, .Name x p'] X.env = (false, eval a X.env) :: starEach [.Name x p'] X.env := by rfl) (he2 : starEach [.Name x p'] X.env = (false, eval (.Name x p') X.env) :: starEach [] X.env := by rfl) (hpl : (backTo pos (starEach [.Name x p'] X.env)).any (·.1) = false := by rfl) :
    DE X (.Call (.Name "isinstance" p) [a, .Name x p'] [] pos) (xIsi [T] fa) := by
  refine ⟨fun c hc => pe_imp (pe_callB call_isi hgl hm PyProof.Rows.boot_isinstance (pa_cons (ha.pe c hc) (pa_cons hT' pa_nil he2) he) (by decide) (by decide) he hpl) fun σ H Q q => ?_⟩
  obtain ⟨e, R, r, e', he, q⟩ := q
  unfold xIsi at he
  cases h1 : fa e with
  | none => rw [h1] at he; cases he
  | some p =>
  obtain ⟨r1, e1⟩ := p
  rw [h1] at he; dsimp only at he
  cases h2 : rd e1 r1 with
  | none => rw [h2] at he; cases he
  | some d =>
  rw [h2] at he; dsimp only at he
  split at he
  case isFalse => cases he
  rename_i nd
  cases he
  refine ⟨e, R, r1, _, h1, fun v H1 S hv => ?_⟩
  have hd := (RvR.rb S.rel hv h2).dp
  have hd' : Dq X.K H1 v d := by rw [← hc]; exact hd
  refine ⟨v, .ty T, _, _, _, rfl, .ty T, tyx hd' nd, kit_ty (hT _ (tyS_mem hd nd)), ?_⟩
  have : ([T].any (isiB (tyS d))) = isiB (tyS d) T := by simp
  rw [this] at q
  exact q _ H1 S (.bl _)
theorem de_isiT {ts : List String} {es : List Expr} {k} {p p' : Pos} (hT : ∀ T ∈ ts, kits T) (hlen : ts.length ≤ 100) (hm : X.mg "isinstance" = none) (ha : DE X a fa) (hT' : PA X es (tTys ts)) (hgl : Gl X "isinstance" := by rfl)
    (he : starEach [a, .Tuple es k p'] X.env = (false, eval a X.env) :: starEach [.Tuple es k p'] X.env := by rfl) (he2 : starEach [.Tuple es k p'] X.env = (false, eval (.Tuple es k p') X.env) :: starEach [] X.env := by rfl) (hpl : (backTo pos (starEach [.Tuple es k p'] X.env)).any (·.1) = false := by rfl) :
    DE X (.Call (.Name "isinstance" p) [a, .Tuple es k p'] [] pos) (xIsi ts fa) := by
  refine ⟨fun c hc => pe_imp (pe_callB call_isiT hgl hm PyProof.Rows.boot_isinstance (pa_cons (ha.pe c hc) (pa_cons (pe_tup hT') pa_nil he2) he) (by decide) (by decide) he hpl) fun σ H Q q => ?_⟩
  obtain ⟨e, R, r, e', he, q⟩ := q
  unfold xIsi at he
  cases h1 : fa e with
  | none => rw [h1] at he; cases he
  | some p =>
  obtain ⟨r1, e1⟩ := p
  rw [h1] at he; dsimp only at he
  cases h2 : rd e1 r1 with
  | none => rw [h2] at he; cases he
  | some d =>
  rw [h2] at he; dsimp only at he
  split at he
  case isFalse => cases he
  rename_i nd
  cases he
  refine ⟨e, R, r1, _, h1, fun v H1 S hv => ?_⟩
  have hd := (RvR.rb S.rel hv h2).dp
  refine tTys_ok ?_
  refine ⟨by rw [List.length_map, sizeLine_eq]; omega, fun t ht => ?_⟩
  have sm : Same H1 (upd H1 t (.tup (ts.map V.ty))) := same_upd ht
  have hd' : Dq X.K (upd H1 t (.tup (ts.map V.ty))) v d := by rw [← hc]; exact dp_mono sm hd
  exact ⟨v, t, ts.map V.ty, _, _, _, rfl, upd_same, kits_pair ts, tyx hd' nd, kits_any (tyS_mem hd nd) hT, q _ _ (S.trans (Stp.grow S.rel sm)) (.bl _)⟩
theorem pa_ty {T : String} {x : Str} {ts : List String} {es : List Expr} {p' : Pos} (h : PE X (.Name x p') (tC (.ty T))) (hr : PA X es (tTys ts)) (hs : starEach (.Name x p' :: es) X.env = (false, eval (.Name x p') X.env) :: starEach es X.env := by rfl) : PA X (.Name x p' :: es) (tTys (T :: ts)) := pa_cons h hr hs
end
theorem kits_list : kits "list" := by unfold kits; decide +kernel
theorem kits_tuple : kits "tuple" := by unfold kits; decide +kernel
theorem kits_bool : kits "bool" := by unfold kits; decide +kernel
theorem kits_int : kits "int" := by unfold kits; decide +kernel
theorem kits_str : kits "str" := by unfold kits; decide +kernel
end DD

namespace DD
open PySem PySem.Spec PyProof.Rows L2

/-! ### ["..", ..].index(x.replace(..).replace(..)) -/
def tStrs : List Str → TA
  | [] => tNil
  | z :: zs => tCons (tC (.str z)) (tStrs zs)
theorem tStrs_ok : ∀ {ts : List Str} {σ : Sg} {H : Hp} {Q : List V → Hp → Prop}, Q (ts.map V.str) H → tStrs ts σ H Q
  | [], _, _, _, h => h
  | T :: ts, σ, H, Q, h => tStrs_ok (ts := ts) (Q := fun xs H2 => Q (.str T :: xs) H2) h
/-- an expression behind which a token is out -/
def PEk (X : Cx) (e : Expr) (t : TE) : Prop :=
  ∀ (pins : List (Addr × Obj)) (s : Shared) (σ : Sg) (H : Hp) (Q : VK), Inv X pins σ H s → t σ H Q → wpAny (model X.prog X.w) X.A (eval e X.env) (fun v s' => 1 ≤ s'.toks ∧ EP X pins σ Q v s') X.xe s
section
variable {X : Cx} {a b d x o e : Expr} {fa fb fd f : FX} {pos p2 cpos apos : Pos} {to te : TE}
theorem pek_lst {y : Str} {j : Nat} {p : Pos} {es : List Expr} {t : TA} (h : PA X es t) (hs : starEach (.Constant (.str y) j p :: es) X.env = (false, eval (.Constant (.str y) j p) X.env) :: starEach es X.env := by rfl) : PEk X (.List (.Constant (.str y) j p :: es) pos) (tLst (tCons (tC (.str y)) t)) := by
  intro pins s σ H Q I hq
  refine wpAny_List_spliced ?_
  rw [hs]
  show wpAny _ _ (spliced ((false, eval (.Constant (.str y) j p) X.env) :: backTo pos (starEach es X.env))) _ _ s
  refine Calls.spliced_cons (Calls.Constant_str ?_)
  refine wpAny_mono (PySem.wpAny_toks (h.run pos pins { s with toks := s.toks + 1 } σ H _ (I.tok _) hq)) (fun us s1 q => ?_) fun _ _ z => z.2
  obtain ⟨hk, xs, H1, I1, r, z, q⟩ := q
  have r' : Vals (V.str y :: xs) (Value.str y s.toks :: us) := .cons ⟨s.toks, rfl⟩ r
  refine ⟨by rw [← r'.length]; exact z, ?_⟩
  have hf : H1 s1.heap.objs.size = none := I1.hok.fresh (Nat.le_refl _)
  have hk' : s.toks + 1 ≤ s1.toks := hk
  refine ⟨by show 1 ≤ s1.toks; omega, .ref s1.heap.objs.size, upd H1 s1.heap.objs.size (.lst (V.str y :: xs)), I1.laid (t' := s1.toks) (fun b u e => Heap.get?_push_of_some _ e) (Nat.le_refl _) ?_, rfl, q _ hf⟩
  exact ⟨z, _, 0, r', Heap.get?_push_size _ rfl⟩
theorem pe_bmT {T id : String} {name : Str} {r : V → List V → Hp → VK → Prop} (pa : PlainAttrs T) (slot : Slot T name id) (hty : typeOf (.builtin id) = pure (.type "method_descriptor")) (hm : MtR X id r) (ho : PEk X o to) (ha : PET X e te)
    (hbase : attributeBase o name X.env (eval o X.env) = eval o X.env := by rfl)
    (hfew : ((backTo cpos (starEach [e] X.env)).all (fun x => !x.1) && (backToKw cpos (keywordEach [] X.env)).all (fun x => x.1.isSome)
      && decide (([e] : List Expr).length + ([] : List Keyword).length + (if ([] : List Keyword).isEmpty then 0 else 1) < 30)) = true := by rfl)
    (hline : (apos.endLine == cpos.line) = true := by rfl) (hs : starEach [e] X.env = (false, eval e X.env) :: starEach [] X.env := by rfl) (hplain : (backTo cpos (starEach [] X.env)).any (·.1) = false := by rfl) :
    PE X (.Call (.Attribute o name apos) [e] [] cpos) (tBM X.K T r to (tCons te tNil)) := by
  refine ⟨fun pins s σ H Q I h => ?_⟩
  refine wpAny_Call_method_late hbase hfew hline rfl (thn (ho pins s σ H _ I h) fun v s1 ⟨hk, x, H1, I1, r1, ty, q1⟩ => ?_)
  obtain ⟨h1, h2⟩ := tyV_is I1 r1 ty
  refine ⟨T, id, pa, slot, hty, h1, h2, ?_⟩
  have hA := pat_cons ha pat_nil hs cpos pins s1 σ H1 _ hk I1 q1
  rw [hs] at hA ⊢
  refine Calls.callWith_builtin (by show (false || (backTo cpos (starEach [] X.env)).any (·.1)) = false; rw [hplain] <;> rfl) (Calls.evalArgs_plain ?_)
  exact thn hA fun us s2 ⟨vs, H2, I2, r2, q2⟩ => hm pins s2 σ H2 x vs v us Q I2 r1 r2 q2
def replOk (x z : Str) : Bool := decide (x.length + (x.length + 1) * z.length ≤ 16777216)
/-- the first place of x in ws -/
def idxOf (x : Str) : List Str → Option Nat
  | [] => none
  | w :: ws => if (w == x) = true then some 0 else (idxOf x ws).map (· + 1)
def xPart (ws : List Str) (y1 z1 y2 z2 : Str) (f : FX) : FX := fun e => match f e with
  | some (.d (.str x), e1) => if (replOk x z1 && replOk (Txt.replace x y1 z1) z2) = true then (match idxOf (Txt.replace (Txt.replace x y1 z1) y2 z2) ws with
    | some j => some (.d (.int (j : Nat)), e1)
    | none => none) else none
  | _ => none
theorem idxOf_some {x : Str} : ∀ {ws : List Str} {j : Nat}, idxOf x ws = some j → (ws.map V.str)[j]? = some (.str x) ∧ ∀ (m : Nat) (z' : V), m < j → (ws.map V.str)[m]? = some z' → eqV z' (.str x) = false
  | [], _, h => by cases h
  | w :: ws, j, h => by
    unfold idxOf at h
    split at h
    · rename_i hw
      cases h
      have : w = x := by simpa using hw
      subst this
      exact ⟨rfl, fun m z' hm => absurd hm (Nat.not_lt_zero _)⟩
    · rename_i hw
      obtain ⟨j', h1, rfl⟩ := Option.map_eq_some_iff.mp h
      obtain ⟨h2, h3⟩ := idxOf_some h1
      refine ⟨h2, fun m z' hm hz => ?_⟩
      cases m with
      | zero =>
        cases hz
        show (w == x) = false
        simpa using hw
      | succ m => exact h3 m z' (by omega) hz
theorem de_part {w : Str} {ws : List Str} {jw : Nat} {pw lp : Pos} {es : List Expr} {y1 z1 y2 z2 : Str} {j1 k1 j2 k2 : Nat} {c1 c2 c3 c4 ap a1 a2 p1 p2 : Pos}
    (hes : PA X es (tStrs ws)) (hlen : ws.length ≤ 100) (h : DE X x f) (n1 : (y1 == z1) = false := by decide) (n2 : (y2 == z2) = false := by decide)
    (hs0 : starEach (.Constant (.str w) jw pw :: es) X.env = (false, eval (.Constant (.str w) jw pw) X.env) :: starEach es X.env := by rfl)
    (hst1 : starEach [.Constant (.str y1) j1 c1, .Constant (.str z1) k1 c2] X.env = [(false, eval (.Constant (.str y1) j1 c1) X.env), (false, eval (.Constant (.str z1) k1 c2) X.env)] := by rfl)
    (hst2 : starEach [.Constant (.str y2) j2 c3, .Constant (.str z2) k2 c4] X.env = [(false, eval (.Constant (.str y2) j2 c3) X.env), (false, eval (.Constant (.str z2) k2 c4) X.env)] := by rfl)
    (hb1 : attributeBase x "replace" X.env (eval x X.env) = eval x X.env := by rfl) (hl1 : (a1.endLine == p1.line) = true := by rfl)
    (hb2 : attributeBase (.Call (.Attribute x "replace" a1) [.Constant (.str y1) j1 c1, .Constant (.str z1) k1 c2] [] p1) "replace" X.env (eval (.Call (.Attribute x "replace" a1) [.Constant (.str y1) j1 c1, .Constant (.str z1) k1 c2] [] p1) X.env) = eval (.Call (.Attribute x "replace" a1) [.Constant (.str y1) j1 c1, .Constant (.str z1) k1 c2] [] p1) X.env := by rfl) (hl2 : (a2.endLine == p2.line) = true := by rfl)
    (hb3 : attributeBase (.List (.Constant (.str w) jw pw :: es) lp) "index" X.env (eval (.List (.Constant (.str w) jw pw :: es) lp) X.env) = eval (.List (.Constant (.str w) jw pw :: es) lp) X.env := by rfl)
    (hfew : ((backTo cpos (starEach [(.Call (.Attribute (.Call (.Attribute x "replace" a1) [.Constant (.str y1) j1 c1, .Constant (.str z1) k1 c2] [] p1) "replace" a2) [.Constant (.str y2) j2 c3, .Constant (.str z2) k2 c4] [] p2 : Expr)] X.env)).all (fun x => !x.1) && (backToKw cpos (keywordEach [] X.env)).all (fun x => x.1.isSome)
      && decide (([(.Call (.Attribute (.Call (.Attribute x "replace" a1) [.Constant (.str y1) j1 c1, .Constant (.str z1) k1 c2] [] p1) "replace" a2) [.Constant (.str y2) j2 c3, .Constant (.str z2) k2 c4] [] p2 : Expr)] : List Expr).length + ([] : List Keyword).length + (if ([] : List Keyword).isEmpty then 0 else 1) < 30)) = true := by rfl)
    (hl3 : (ap.endLine == cpos.line) = true := by rfl)
    (hs3 : starEach [(.Call (.Attribute (.Call (.Attribute x "replace" a1) [.Constant (.str y1) j1 c1, .Constant (.str z1) k1 c2] [] p1) "replace" a2) [.Constant (.str y2) j2 c3, .Constant (.str z2) k2 c4] [] p2 : Expr)] X.env = (false, eval (.Call (.Attribute (.Call (.Attribute x "replace" a1) [.Constant (.str y1) j1 c1, .Constant (.str z1) k1 c2] [] p1) "replace" a2) [.Constant (.str y2) j2 c3, .Constant (.str z2) k2 c4] [] p2) X.env) :: starEach [] X.env := by rfl) (hp3 : (backTo cpos (starEach [] X.env)).any (·.1) = false := by rfl) :
    DE X (.Call (.Attribute (.List (.Constant (.str w) jw pw :: es) lp) "index" ap) [.Call (.Attribute (.Call (.Attribute x "replace" a1) [.Constant (.str y1) j1 c1, .Constant (.str z1) k1 c2] [] p1) "replace" a2) [.Constant (.str y2) j2 c3, .Constant (.str z2) k2 c4] [] p2] [] cpos) (xPart (w :: ws) y1 z1 y2 z2 f) := by
  refine ⟨fun c hc => pe_imp (pe_bmT PySem.F.plainAttrs_list PySem.F.slot_list_index PySem.F.type_list_index mt_index (pek_lst hes hs0) (CwR.pet_replT (CwR.pet_replC (h.pe c hc) n1 hst1 hb1 hl1) n2 hst2 hb2 hl2) hb3 hfew hl3 hs3 hp3) fun σ H Q q => ?_⟩
  obtain ⟨e, R, r, e', he, q⟩ := q
  unfold xPart at he
  split at he
  · rename_i xs e1 h1
    split at he
    · rename_i hok
      rw [Bool.and_eq_true] at hok
      cases h2 : idxOf (Txt.replace (Txt.replace xs y1 z1) y2 z2) (w :: ws) with
      | none => rw [h2] at he; cases he
      | some j =>
      rw [h2] at he
      cases he
      refine tStrs_ok (ts := ws) ?_
      refine ⟨by rw [List.length_cons, List.length_map, sizeLine_eq]; omega, fun p hp => ?_⟩
      have sm : Same H (upd H p (.lst (V.str w :: ws.map V.str))) := same_upd hp
      refine ⟨.inl ⟨rfl, _, .inl (.of upd_same)⟩, e, R.grow sm, _, _, h1, fun v H2 S hv => ?_⟩
      cases hv with
      | str =>
      refine ⟨xs, rfl, of_decide_eq_true hok.1, Txt.replace xs y1 z1, rfl, of_decide_eq_true hok.2, ?_⟩
      have hp2 : H2 p = some (.lst (V.str w :: ws.map V.str)) := S.fr p _ (fun z => R.hidden p z hp) upd_same
      obtain ⟨i1, i2⟩ := idxOf_some h2
      refine ⟨p, _, _, j, _, rfl, rfl, .inl (.of hp2), rfl, ?_, i1, by simp [eqV], i2, q _ H2 (Stp.trans (Stp.grow R sm) S) (.int _)⟩
      simp [flatV]
    · cases he
  · cases he
end
end DD

namespace DD
open PySem PySem.Spec PyProof.Rows L2
section
variable {X : Cx} {elt tg iter a b x : Expr} {ifs : List Expr} {fi : FL} {gt : FG} {ft : FT} {fe fa fb f : FX} {is vs : List Nat} {pos spos : Pos}
theorem xl_core {f : FL} {c : Ct} {σ : Sg} {H : Hp} {Q : VK} (q : tD c (xL f) σ H Q) : tL c f σ H Q := by
  obtain ⟨e, R, r, e', he, q⟩ := q
  unfold xL at he
  cases h1 : f e with
  | none => rw [h1] at he; cases he
  | some p =>
    obtain ⟨xs, e1⟩ := p
    rw [h1] at he
    cases he
    refine ⟨e, R, xs, _, h1, fun p vs H' h0 hp R' sh fr ds => ?_⟩
    obtain ⟨S, hr⟩ := dl_fin (R0 := R) h0 hp R' sh fr ds
    exact q _ H' S hr
/-- y = [..], y a plain local, kept as data -/
theorem ds_setC (i : Nat) {y : Str} {py : Pos} {scope : Scope} (own : List (Str × Nat)) (hN : X.N.Nodup) (hi : DI X tg iter fi) (ok : BlkOk X.N X.env.scope scope own) (hv : ∀ i ∈ is, i ∈ own.map (·.2))
    (hg : ∀ (s : Shared) (H : Hp) (C : Addr) (cl : List (Str × Addr)) (fp : List Addr), DG (X.blk s H scope (compEnvC scope cl C X.env) fp) tg is gt) (ht : ∀ (s : Shared) (H : Hp) (C : Addr) (cl : List (Str × Addr)) (fp : List Addr), DTs (X.blk s H scope (compEnvC scope cl C X.env) fp) ifs ft)
    (he : ∀ (s : Shared) (H : Hp) (C : Addr) (cl : List (Str × Addr)) (fp : List Addr), DE (X.blk s H scope (compEnvC scope cl C X.env) fp) elt fe) (hs : ∀ x, foldedSetIterable iter X.env x = pure x := by intro _; rfl) (hc : X.calm = true := by rfl)
    (hy : X.N[i]? = some y := by rfl) (hyl : X.env.scope.names.lookup y = some .local := by rfl) (hk : X.env.scope.kind = .function := by rfl) (hl : (py.line == pos.line) = true := by rfl)
    (ha : (scope.names.any fun (n, k) => n == y && (k == .local || k == .cell)) = false := by decide +kernel) :
    DS X (.Assign [.Name y py] (.ListComp elt [⟨tg, iter, ifs, 0⟩] scope pos) spos) (gSet i (xL (xComp (own.map (·.2)) fi gt ft fe))) :=
  ⟨fun c hk' => ps_imp (ps_setLc hc hN hy hyl (sw_true hk hyl hl ha) (hi.pi c hk') ok (g := tGx X.K is gt) (tt := tTx X.K ft) (te := tDx X.K fe)
    (fun s H C cl fp => ⟨fun pins s' σ H' v u Q I r ⟨c', h1, h2⟩ => ((hg s H C cl fp).pg c' h1).run pins s' σ H' v u Q I r h2⟩)
    (fun s H C cl fp => ⟨fun pins s' σ H' Q I ⟨c', h1, h2⟩ => ((ht s H C cl fp).pts c' h1).run pins s' σ H' Q I h2⟩)
    (fun s H C cl fp => ⟨fun pins s' σ H' Q I ⟨c', h1, h2⟩ => ((he s H C cl fp).pe c' h1).run pins s' σ H' Q I h2⟩) hs) fun Z σ H q => comp_core hk' hv (xl_core (set_core q))⟩
end
/-- a body that promises nothing -/
theorem body_none {P : Program} {w : World} {K : PySem.W.Frag} {mg : Str → Option Value} {base : Heap} {CX : CXT} {N : List Str} {qual : Str} {scope : Scope} {f : Addr} {k : Nat} {body : List Stmt} : BodyOk P w K mg base CX N qual scope f k body (fun _ => none) :=
  fun cdv A outer s H E hr => ⟨fun c hc => ⟨fun pins s' σ H' D I q => by obtain ⟨e, R, o, e', he, _⟩ := q; cases he⟩⟩
end DD

namespace DD
open PySem PySem.Spec PyProof.Rows L2

/-! ### *e in a display, in an argument list -/
def seqD : D → Option (List D)
  | .list xs => some xs
  | .tuple xs => some xs
  | _ => none
def aStar (a : FX) (b : FA) : FA := fun e => match a e with
  | some (r, e1) => (match rd e1 r with
    | some d => (match seqD d with
      | some ds => (match b e1 with
        | some (rs, e2) => some (ds.map Rv.d ++ rs, e2)
        | none => none)
      | none => none)
    | none => none)
  | none => none
section
variable {c : Ct} {σ : Sg} {H H' : Hp} {sl : List Sl}
theorem rvrs_data : ∀ {vs : List V} {ds : List D}, DqAll c.K (hid (OO c σ sl) H) vs ds → RvRs c σ H sl vs (ds.map Rv.d)
  | _, _, .nil => True.intro
  | _, _, .cons a b => ⟨a, rvrs_data b⟩
theorem rvrs_app : ∀ {vs ws : List V} {rs qs : List Rv}, RvRs c σ H sl vs rs → RvRs c σ H sl ws qs → RvRs c σ H sl (vs ++ ws) (rs ++ qs)
  | [], _, [], _, _, h => h
  | v :: vs, _, r :: rs, _, h, g => ⟨h.1, rvrs_app h.2 g⟩
  | [], _, _ :: _, _, h, _ => h.elim
  | _ :: _, _, [], _, h, _ => h.elim
end
section
variable {X : Cx} {a : Expr} {es : List Expr} {fa : FX} {fs : FA} {p : Pos}
theorem da_star (ha : DE X a fa) (hr : DA X es fs) (hs : starEach (.Starred a p :: es) X.env = (true, eval a X.env) :: starEach es X.env := by rfl) : DA X (.Starred a p :: es) (aStar fa fs) := by
  refine ⟨fun c hc => pa_imp (StX.pa_star (ha.pe c hc) (hr.pa c hc) hs) fun σ H Q q => ?_⟩
  obtain ⟨e, R, rs, e', he, q⟩ := q
  unfold aStar at he
  cases h1 : fa e with
  | none => rw [h1] at he; cases he
  | some p1 =>
  obtain ⟨r, e1⟩ := p1
  rw [h1] at he; dsimp only at he
  cases h2 : rd e1 r with
  | none => rw [h2] at he; cases he
  | some d =>
  rw [h2] at he; dsimp only at he
  cases h3 : seqD d with
  | none => rw [h3] at he; cases he
  | some ds =>
  rw [h3] at he; dsimp only at he
  cases h4 : fs e1 with
  | none => rw [h4] at he; cases he
  | some p2 =>
  obtain ⟨rs2, e2⟩ := p2
  rw [h4] at he
  cases he
  refine ⟨e, R, r, e1, h1, fun v H1 S hv => ?_⟩
  have hb := RvR.rb S.rel hv h2
  have go : ∀ (p : Addr) (vs : List V), v = .ref p → (SqT X.K H1 p vs ∨ SqL X.K H1 p vs) → DqAll c.K (hid (OO c σ e1.sl) H1) vs ds → ∃ (p : Addr) (xs : List V), v = V.ref p ∧ (SqT X.K H1 p xs ∨ SqL X.K H1 p xs) ∧ tA c fs σ H1 fun ys H2 => Q (xs ++ ys) H2 := fun p vs hp hs hd => by
    refine ⟨p, vs, hp, hs, e1, S.rel, rs2, _, h4, fun ws H2 S2 hw => ?_⟩
    exact q (vs ++ ws) H2 (S.trans S2) (rvrs_app (rvrs_data (dpAll_mono S2.same hd)) hw)
  cases d with
  | list xs =>
    cases h3
    obtain ⟨p, vs, hp, g1, g2⟩ := hb.list
    exact go p vs hp (.inr (.inl (.of g1))) g2
  | tuple xs =>
    cases h3
    obtain ⟨p, vs, hp, g1, g2⟩ := hb.tup
    exact go p vs hp (.inl (by rw [← hc]; exact g1)) g2
  | _ => cases h3
end
end DD

namespace DD
open PySem PySem.Spec PyProof.Rows L2

/-! ### a list of one's own is changed -/
section
variable {c : Ct} {σ : Sg} {H : Hp} {e : ES}
theorem Rel.ownUpd (R : Rel c σ H e) {i : Nat} {xs ys : List D} {a : Addr} {ws : List V} (h : e.sl[i]? = some (.own xs)) (hs : σ[i]? = some (some (.ref a))) (hd : DqAll c.K (hid (OO c σ e.sl) H) ws ys) : Rel c σ (upd H a (.lst ws)) (e.set i (.own ys)) := by
  obtain ⟨a', vs, g1, g2, g3, g4⟩ := R.slots i _ h
  rw [hs] at g1; cases g1
  have hi : i < e.sl.length := (List.getElem?_eq_some_iff.mp h).1
  have hO : OO c σ e.sl a := .inr ⟨i, .l xs, h, hs⟩
  have sub : ∀ b, OO c σ (e.sl.set i (.own ys)) b → OO c σ e.sl b := fun b q => by
    rcases q with q | ⟨j, zs, h1, h2⟩
    · exact .inl q
    · rcases get_set2 h1 with ⟨rfl, _, _⟩ | ⟨n, h1⟩
      · rw [hs] at h2; cases h2; exact hO
      · exact .inr ⟨j, zs, h1, h2⟩
  have sm : Same (hid (OO c σ e.sl) H) (hid (OO c σ (e.sl.set i (.own ys))) (upd H a (.lst ws))) := hid_same (fun b q => .inl (sub b q)) fun b o n h => by
    rw [upd_ne (fun z => n (by subst z; exact hO))]; exact h
  refine ⟨by rw [ES.set_sl, List.length_set]; exact R.len, R.ok, R.tpc, fun b o h z => ?_, fun j s hj => ?_, fun j k us zs b h1 h2 h3 h4 => ?_, fun τ hτ => ?_⟩
  · rw [upd_ne (fun w => by subst w; rw [g2] at h; cases h)]
    exact R.ext b o h z
  · rw [ES.set_sl] at hj ⊢
    rcases get_set2 hj with ⟨rfl, rfl, _⟩ | ⟨n, hj⟩
    · exact ⟨a, ws, hs, g2, upd_same, dpAll_mono sm hd⟩
    · have z := R.slots j s hj
      cases s with
      | un => exact True.intro
      | d x => obtain ⟨v, k1, k2⟩ := z; exact ⟨v, k1, dp_mono sm k2⟩
      | own us =>
        obtain ⟨b, us', k1, k2, k3, k4⟩ := z
        have nb : b ≠ a := fun w => by subst w; exact n (R.inj j i (.l us) (.l xs) b hj h k1 hs)
        exact ⟨b, us', k1, k2, by rw [upd_ne nb]; exact k3, dpAll_mono sm k4⟩
      | dct us =>
        obtain ⟨b, ob, us', k1, k2, k3, k4, k5⟩ := z
        have nb : b ≠ a := fun w => by subst w; exact n (R.inj j i (.k us) (.l xs) b hj h k1 hs)
        exact ⟨b, ob, us', k1, k2, by rw [upd_ne nb]; exact k3, k4, dpKv_mono sm k5⟩
      | tape => exact z
  · rw [ES.set_sl] at h1 h2
    have lift : ∀ {j : Nat} {us : Bx}, (e.sl.set i (.own ys))[j]? = some us.sl → ∃ us' : Bx, e.sl[j]? = some us'.sl := fun {j us} q => by
      rcases get_set2 q with ⟨rfl, _, _⟩ | ⟨_, q⟩
      · exact ⟨.l xs, h⟩
      · exact ⟨us, q⟩
    obtain ⟨_, h1⟩ := lift h1
    obtain ⟨_, h2⟩ := lift h2
    exact R.inj j k _ _ b h1 h2 h3 h4
  · obtain ⟨l, k1, k2⟩ := R.tp τ hτ
    have hp : c.tp = true := by rw [← R.tpc]; have hτ' : e.tp = some τ := hτ; rw [hτ']; rfl
    have ht : c.t ≠ a := fun w => R.ok.out c.t (R.ok.hot hp) (by rw [w]; exact g2)
    exact ⟨l, by rw [upd_ne ht]; exact k1, dp_mono sm k2⟩
end
def gApp (i : Nat) (f : FX) : FS := fun e => match e.sl[i]? with
  | some (.own _) => (match f e with
    | some (r, e1) => (match fz r e1 with
      | some (d, e2) => (match e2.sl[i]? with
        | some (.own xs) => if xs.length < 16000000 then some (.nx, e2.set i (.own (xs ++ [d]))) else none
        | _ => none)
      | none => none)
    | none => none)
  | _ => none
section
variable {X : Cx} {a : Expr} {f : FX} {pos cpos apos : Pos}
theorem ds_app (i : Nat) {y : Str} {py : Pos} (h : DE X a f) (hi : X.N[i]? = some y := by rfl) (hv : Vis X.env.scope y := by first | exact Or.inl rfl | exact Or.inr (Or.inl rfl) | exact Or.inr (Or.inr rfl)) (hd : (y == ("__debug__" : Str)) = false := by decide)
    (hcd : (y == ("__classdict__" : Str)) = false := by decide) (hbase : attributeBase (.Name y py) "append" X.env (eval (.Name y py) X.env) = eval (.Name y py) X.env := by rfl)
    (hfew : ((backTo cpos (starEach [a] X.env)).all (fun x => !x.1) && (backToKw cpos (keywordEach [] X.env)).all (fun x => x.1.isSome)
      && decide (([a] : List Expr).length + ([] : List Keyword).length + (if ([] : List Keyword).isEmpty then 0 else 1) < 30)) = true := by rfl)
    (hline : (apos.endLine == cpos.line) = true := by rfl) (hs : starEach [a] X.env = (false, eval a X.env) :: starEach [] X.env := by rfl) (hplain : (backTo cpos (starEach [] X.env)).any (·.1) = false := by rfl)
    (hsw : swapsWith (.Call (.Attribute (.Name y py) "append" apos) [a] [] cpos) none pos.line X.env = pure false := by rfl) : DS X (.Expr (.Call (.Attribute (.Name y py) "append" apos) [a] [] cpos) pos) (gApp i f) := by
  refine ⟨fun c hc => ps_imp (ps_expr (pe_bm (T := "list") (r := rAppend) PySem.F.plainAttrs_list PySem.F.slot_list_append PySem.F.type_list_append mt_append (pe_var hi hv hd hcd) (pa_cons (h.pe c hc) pa_nil hs) hbase hfew hline hs hplain) hsw) fun Z σ H q => ?_⟩
  obtain ⟨e, R, o, e', he, q⟩ := q
  unfold gApp at he
  split at he
  · rename_i xs0 h0
    cases h1 : f e with
    | none => rw [h1] at he; cases he
    | some p =>
    obtain ⟨r, e1⟩ := p
    rw [h1] at he; dsimp only at he
    cases h2 : fz r e1 with
    | none => rw [h2] at he; cases he
    | some p =>
    obtain ⟨d, e2⟩ := p
    rw [h2] at he; dsimp only at he
    split at he
    · rename_i xs h3
      split at he
      · rename_i hl
        cases he
        obtain ⟨b, vs0, g1, g2, g3, g4⟩ := R.slots i _ h0
        refine ⟨_, g1, .inl ⟨rfl, vs0, .inl (.of g3)⟩, e, R, r, e1, h1, fun v H1 S hv => ?_⟩
        obtain ⟨S2, hd⟩ := fz_ok S.rel hv h2
        obtain ⟨b', vs, k1, k2, k3, k4⟩ := S2.rel.slots i _ h3
        rw [g1] at k1; cases k1
        refine ⟨b, vs, v, rfl, rfl, k3, by rw [dpAll_len k4, sizeLine_eq]; omega, q σ _ ?_⟩
        exact S2.rel.ownUpd h3 g1 (dpAll_app k4 (.cons hd .nil))
      · cases he
    · cases he
  · cases he
end
end DD

namespace DD
open PySem PySem.Spec PyProof.Rows L2

/-! ### defs with *args -/
theorem bind_star0 {B : List Value → Sem (List (Str × Value))} {pv : Str} (h0 : B [] = (newTuple [] >>= fun t => pure [(pv, t)])) (h1 : ∀ r rs, B (r :: rs) = (newTuple (r :: rs) >>= fun t => pure [(pv, t)])) :
    ∀ us rest : List Value, us.length = ([] : List Str).length → B (us ++ rest) = (newTuple rest >>= fun t => pure (([] : List Str).zip us ++ [(pv, t)]))
  | [], [], _ => h0
  | [], r :: rs, _ => h1 r rs
def varF (m : Nat) (f : FP) : FP := fun ds => if m ≤ ds.length ∧ ds.length ≤ 16000000 then f (ds.take m ++ [.tuple (ds.drop m)]) else none
theorem split_dp {K : PySem.W.Frag} {H : Hp} {vs : List V} {ds : List D} (m : Nat) (h : DqAll K H vs ds) : DqAll K H (vs.take m) (ds.take m) ∧ DqAll K H (vs.drop m) (ds.drop m) := ⟨dpAll_take m h, dpAll_drop m h⟩
section
variable {P : Program} {w : World} {K : PySem.W.Frag} {mg : Str → Option Value} {base : Heap} {x qual : Str} {params : Arguments} {body : List Stmt} {scope : Scope} {f : Addr} {fd : FuncData} {N ps : List Str} {k n m : Nat} {g : FS}
theorem fn_V {pv : Str} {kws : List (Str × V)} (F : FunD K x qual params body scope [] kws f fd) (S : FnScope N (ps ++ [pv]) scope) (hn : N.length = n) (hm : ps.length = m) (hb : BodyOk P w K mg base CX0 N qual scope f k body g)
    (hbind : ∀ (kV doc pm : Value) (an : Option Addr) (cdv ct : Value) (us rest : List Value), us.length = ps.length → bindArgs (PySem.W.fnOf x qual params body scope .none kV doc pm an cdv ct) ⟨us ++ rest, []⟩ = (newTuple rest >>= fun t => pure (ps.zip us ++ [(pv, t)]))) :
    FnR P w K mg base CX0 (k + 1) f (spP K (varF m (callP g n (m + 1)))) := by
  have hnm : m + 1 ≤ n := by have := congrArg List.length S.pre; rw [List.length_take, List.length_append, List.length_singleton] at this; omega
  obtain ⟨oc, od, dV, kV, doc, pm, an, cdv, ct, osl, rfl, lk, hcd, hD, hK⟩ := F.ex
  rcases hD with ⟨_, rfl⟩ | ⟨e, _⟩
  · refine FnR.imp (StX.fn_star (ps := ps) (pv := pv) (sp := spP K (callP g n (m + 1))) lk hcd S (fun _ _ _ _ _ _ _ _ _ _ _ z => z) (hbind kV doc pm an cdv ct) (fun A outer s H vs Q E hr h => ?_)) fun vs H Q E h => ?_
    · obtain ⟨O, ds, d, ho, hd, hf, q⟩ := h
      unfold callP at hf
      split at hf
      · rename_i hl
        cases hg : g (startE n ds none) with
        | none => rw [hg] at hf; cases hf
        | some p =>
          obtain ⟨o, e⟩ := p
          rw [hg] at hf
          have R := rel_start (K := K) (N := N) ho hd hn (by omega)
          refine ⟨_, PSs.nox ((hb cdv A outer s H E hr).pb ⟨K, O, 0, false, H⟩ rfl), _, R, o, e, hg, end_ok R.ok hf (fun σ H' R' hv => ?_) fun σ v H' R' hv => ?_⟩
          · exact q .non H' (fun a o h => R'.ext a o h fun z => by cases z) hv
          · exact q v H' (fun a o h => R'.ext a o h fun z => by cases z) hv
      · cases hf
    · obtain ⟨O, ds, d, ho, hd, hf, q⟩ := h
      unfold varF at hf
      split at hf
      · rename_i hl
        have e1 := dpAll_len hd
        obtain ⟨h1, h2⟩ := split_dp m hd
        refine ⟨vs.take m, vs.drop m, (List.take_append_drop m vs).symm, by rw [List.length_take]; omega, by rw [List.length_drop, sizeLine_eq]; omega, fun p hp => ?_⟩
        have sm : Same H (upd H p (.tup (vs.drop m))) := same_upd hp
        refine ⟨O, ds.take m ++ [.tuple (ds.drop m)], d, fun a ha => ?_, dpAll_app (dpAll_mono (hid_same0 sm) h1) (.cons (new_tup ho hp h2) .nil), hf, fun v H' s2 hv => q v H' (fun a o z => s2 a o (sm a o z)) hv⟩
        have hne : a ≠ p := fun z => by subst z; exact ho a ha hp
        rw [upd_ne hne]; exact ho a ha
      · cases hf
  · exact absurd rfl e
end
section
variable {X : Cx} {k : Nat} {f : Addr} {x : Str} {p pos : Pos} {a : Expr} {as : List Expr} {fa : FA} {E : XK}
/-- x(.., *y) -/
theorem de_fnS {g : FP} (F : FnR X.prog X.w X.K X.mg X.base CX0 k f (spP X.K g)) (hr : Room k X.A) (hm : X.mg x = some (.ref f)) (hk : PySem.W.keepIn X.K (.ref f) = true) (hx : Passes CX0 X E)
    (ha : DA X (a :: as) fa) (hg : Gl X x := by rfl) (hdb : (x == ("__debug__" : Str)) = false := by decide) (he : starEach (a :: as) X.env = (false, eval a X.env) :: starEach as X.env := by rfl) (hst : (backTo pos (starEach as X.env)).any (·.1) = true := by rfl) :
    DE X (.Call (.Name x p) (a :: as) [] pos) (xFn g fa) :=
  ⟨fun c hc => pe_imp (StX.pe_callS2 F hr hk hg hm hx (ha.pa c hc) hdb he hst) fun σ H Q q => by
    have z := xfn_core (E := E) hc q
    obtain ⟨e, R, rs, e', h1, h2⟩ := z
    exact ⟨e, R, rs, e', h1, fun vs H1 S hv => by
      have z : spP X.K g (vs ++ []) H1 Q E := h2 vs H1 S hv
      rw [List.append_nil] at z
      exact z⟩⟩
/-- x(..) without a star -/
theorem de_fnR {g : FP} (F : FnR X.prog X.w X.K X.mg X.base CX0 k f (spP X.K g)) (hr : Room k X.A) (hm : X.mg x = some (.ref f)) (hk : PySem.W.keepIn X.K (.ref f) = true) (hx : Passes CX0 X E)
    (ha : DA X (a :: as) fa) (hg : Gl X x := by rfl) (hdb : (x == ("__debug__" : Str)) = false := by decide) (he : starEach (a :: as) X.env = (false, eval a X.env) :: starEach as X.env := by rfl) (hpl : (backTo pos (starEach as X.env)).any (·.1) = false := by rfl) :
    DE X (.Call (.Name x p) (a :: as) [] pos) (xFn g fa) := by
  refine ⟨fun c hc => ⟨fun pins s σ H Q I h => ?_⟩⟩
  have z := xfn_core (E := E) hc h
  refine wpAny_Call_Name_kw (ld_glob I hg hm ?_ hdb)
  refine PySem.W.callWith_K (h₀ := X.base) I.ok.mod.kin hk (thn ((ha.pa c hc).run pos pins s σ H _ I z) fun us s1 ⟨vs, H1, I1, r, q⟩ => ⟨I1.kIn, ?_⟩) he hpl
  have q' : spP X.K g (vs ++ []) H1 Q E := q
  rw [List.append_nil] at q'
  exact wpAny_call (run_fnR F hr hx I1 r q')
end
end DD

namespace DD
open PySem PySem.Spec PyProof.Rows L2

/-! ### match over texts -/
abbrev FMt := Str → FS
def mNil : FMt := fun _ => gNx
def mStr (w : Str) (b : FS) (r : FMt) : FMt := fun z => if (z == w) = true then b else r z
def mAny (b : FS) : FMt := fun _ => b
def gMatch (f : FX) (m : FMt) : FS := fun e => match f e with
  | some (.d (.str z), e1) => m z e1
  | _ => none
structure DC (X : Cx) (cs : List MatchCase) (m : FMt) : Prop where
  run : ∀ (c : Ct), c.K = X.K → ∀ (first : Bool) (pins : List (Addr × Obj)) (s : Shared) (σ : Sg) (H : Hp) (z : Str) (t : Tok) (Z : Ends), Inv X pins σ H s → tS c (m z) Z σ H →
    wpAny (model X.prog X.w) X.A (matchCases cs X.env (.str z t) first) (SP X pins Z) X.xe s
section
variable {X : Cx} {a : Expr} {f : FX} {b : FS} {m : FMt} {sts : List Stmt} {rest : List MatchCase} {pos p p' : Pos}
theorem dc_nil : DC X [] mNil := ⟨fun c hc first pins s σ H z t Z I q => by
  refine wpAny_matchCases_nil ?_
  obtain ⟨e, R, o, e', he, q⟩ := q
  cases he
  exact ⟨σ, H, I, q σ H R⟩⟩
theorem dc_any (h : DB X sts b) : DC X (⟨.MatchAs none none p, none, sts⟩ :: rest) (mAny b) := ⟨fun c hc first pins s σ H z t Z I q => by
  refine wpAny_matchCases_cons (wpAny_matchPattern_Capture ?_)
  refine wpAny_assignInOrder_none ?_
  exact (h.pb c hc).run pins s σ H Z I q⟩
theorem dc_str {w : Str} {j : Nat} (hu : X.A.units + 64 < cLine) (h : DB X sts b) (hr : DC X rest m) : DC X (⟨.MatchValue (.Constant (.str w) j p) p', none, sts⟩ :: rest) (mStr w b m) := ⟨fun c hc first pins s σ H z t Z I q => by
  refine wpAny_matchCases_cons (wpAny_matchPattern_Value (Calls.Constant_str ?_))
  have ho := op_eqP (X := X) hu pins { s with toks := s.toks + 1 } σ H (.str z) (.str w) (.str z t) (.str w s.toks) (fun v H1 => v = .bl (z == w) ∧ H1 = H) (I.tok _) ⟨t, rfl⟩ ⟨s.toks, rfl⟩ ⟨.str z, .str w, (z == w), .str z, .str w, by
    show (if (shal (.str z) && shal (.str w)) = true then _ else _) = _
    have hs : (shal (.str z) && shal (.str w)) = true := rfl
    rw [if_pos hs]
    have e : PyData.eqv (.str z) (.str w) = (z == w) := by rw [PyData.eqv]
    rw [e], rfl, rfl⟩
  refine thn ho fun u s1 ⟨v, H1, I1, r1, e1, e2⟩ => ?_
  subst e1 e2
  cases r1
  refine wpAny_truthy_bool ?_
  unfold mStr at q
  by_cases hz : (z == w) = true
  · rw [if_pos hz] at q
    rw [hz]
    refine wpAny_assignInOrder_none ?_
    exact (h.pb c hc).run pins s1 σ _ Z I1 q
  · rw [if_neg hz] at q
    rw [show (z == w) = false by simpa using hz]
    exact hr.run c hc false pins s1 σ _ z t Z I1 q⟩
theorem ds_match {cs : List MatchCase} (h : DE X a f) (hr : DC X cs m) : DS X (.Match a cs pos) (gMatch f m) := by
  refine ⟨fun c hc => ⟨fun pins s σ H Z I q => ?_⟩⟩
  obtain ⟨e, R, o, e', he, q⟩ := q
  unfold gMatch at he
  split at he
  · rename_i z e1 h1
    refine wpAny_Match (thn ((h.pe c hc).run pins s σ H (fun v H1 => v = .str z ∧ tS c (m z) Z σ H1) I ⟨e, R, _, e1, h1, fun v H1 S hv => ?_⟩) fun u s1 ⟨v, H1, I1, r1, e2, q2⟩ => ?_)
    · cases hv
      exact ⟨rfl, e1, S.rel, o, e', he, q⟩
    · subst e2
      obtain ⟨t, rfl⟩ := r1
      exact hr.run c hc true pins s1 σ H1 z t Z I1 q2
  · cases he
end
end DD

namespace DD
open PySem PySem.Spec PyProof.Rows L2

/-! ### constants of the module: data that stand in the written part -/
mutual
def datB (K : PySem.W.Frag) : D → Value → Bool
  | .none, .none => true
  | .bool b, .bool c => b == c
  | .int i, .int j _ => decide (i = j)
  | .str x, .str y _ => decide (x = y)
  | .tuple ds, .ref a => (match K.lookup a with
    | some ⟨.type c, _, .seq its _, _⟩ => decide (c = "tuple") && (decide (its.size ≤ sizeLine) && datBs K ds its.toList)
    | _ => false)
  | _, _ => false
def datBs (K : PySem.W.Frag) : List D → List Value → Bool
  | [], [] => true
  | d :: ds, u :: us => datB K d u && datBs K ds us
  | _, _ => false
end
theorem ba2 {a b : Bool} (h : (a && b) = true) : a = true ∧ b = true := by rw [Bool.and_eq_true] at h; exact h
mutual
theorem datB_ok {K : PySem.W.Frag} : ∀ (d : D) (u : Value), datB K d u = true → ∃ v, RelV v u ∧ ∀ H, Dq K H v d
  | .none, .none, _ => ⟨.non, rfl, fun _ => .non⟩
  | .bool b, .bool c, h => ⟨.bl c, rfl, by have : b = c := by simpa [datB] using h
                                           subst this; exact fun _ => .bl b⟩
  | .int i, .int j t, h => ⟨.int j, ⟨t, rfl⟩, by have : i = j := by simpa [datB] using h
                                                 subst this; exact fun _ => .int i⟩
  | .str i, .str j t, h => ⟨.str j, ⟨t, rfl⟩, by have : i = j := by simpa [datB] using h
                                                 subst this; exact fun _ => .str i⟩
  | .tuple ds, .ref a, h => by
    unfold datB at h
    cases q : K.lookup a with
    | none => rw [q] at h; cases h
    | some o =>
      obtain ⟨oc, od, dt, osl⟩ := o
      rw [q] at h
      cases oc with
      | type c =>
        cases dt with
        | seq its n =>
          obtain ⟨h1, h2⟩ := ba2 (show (decide (c = "tuple") && (decide (its.size ≤ sizeLine) && datBs K ds its.toList)) = true from h)
          obtain ⟨h3, h4⟩ := ba2 h2
          obtain ⟨vs, h5, h6⟩ := datBs_ok ds its.toList h4
          exact ⟨.ref a, rfl, fun H => .tup (.inr ⟨_, its, n, q, congrArg Value.type (of_decide_eq_true h1), rfl, of_decide_eq_true h3, h5⟩) (h6 H)⟩
        | _ => cases h
      | _ => cases dt <;> cases h
theorem datBs_ok {K : PySem.W.Frag} : ∀ (ds : List D) (us : List Value), datBs K ds us = true → ∃ vs, Vals vs us ∧ ∀ H, DqAll K H vs ds
  | [], [], _ => ⟨[], .nil, fun _ => .nil⟩
  | d :: ds, u :: us, h => by
    obtain ⟨h1, h2⟩ := ba2 (show (datB K d u && datBs K ds us) = true by rw [datBs] at h; exact h)
    obtain ⟨v, h3, h4⟩ := datB_ok d u h1
    obtain ⟨vs, h5, h6⟩ := datBs_ok ds us h2
    exact ⟨v :: vs, .cons h3 h5, fun H => .cons (h4 H) (h6 H)⟩
end
def GlobD (K : PySem.W.Frag) (mg : Str → Option Value) (x : Str) (d : D) : Prop := ∃ u v, mg x = some u ∧ RelV v u ∧ ∀ H, Dq K H v d
section
variable {X : Cx}
theorem de_glob {x : Str} {d : D} {pos : Pos} (h : GlobD X.K X.mg x d) (hg : Gl X x := by rfl) (hd : (x == ("__debug__" : Str)) = false := by decide) : DE X (.Name x pos) (xC d) := by
  obtain ⟨u, v, h1, h2, h3⟩ := h
  refine ⟨fun c hc => pe_imp (pe_glob hg h1 h2 hd) fun σ H Q q => ?_⟩
  obtain ⟨e, R, r, e', he, q⟩ := q
  cases he
  exact q v H (Stp.refl R) (by show Dq c.K _ v d; rw [hc]; exact h3 _)
end
/-! ### the hook with constants -/
def conB (K : PySem.W.Frag) (p : Str × D) : Bool := match PySem.W.nsIn K mainGlobals p.1 with
  | some (some u) => datB K p.2 u
  | _ => false
abbrev AlC : Type := He.AlD × Bool
def obsC (fa : List He.Fa) (fn : List He.DefD) (cs : List (Str × D)) (K : PySem.W.Frag) : AlC := (He.obsD fa fn K, cs.all (conB K))
def valC (fn : List He.DefD) : AlC := (He.valD fn, true)
def SaysC (fa : List He.Fa) (fn : List He.DefD) (cs : List (Str × D)) (K : PySem.W.Frag) : Prop := obsC fa fn cs K = valC fn
def obsCG (n : Nat) (fa : List He.Fa) (fn : List He.DefD) (cs : List (Str × D)) (g : Addr → Option Obj) : AlC := obsC fa fn cs (He.frG g (He.asD g n))
def hookC (n : Nat) (fa : List He.Fa) (fn : List He.DefD) (cs : List (Str × D)) : PySem.W.Hook where
  α := AlC
  obs := fun s => obsCG n fa fn cs s.heap.get?
  val := fun _ => valC fn
  says := fun _ h => ∃ K : PySem.W.Frag, K.In h ∧ SaysC fa fn cs K
  of := fun _ _ e => ⟨_, He.frG_in, e⟩
  keeps := fun _ _ _ ⟨K, hK, c⟩ k => ⟨K, PySem.W.Frag.In.keeps hK k, c⟩
theorem obsCG_eq {n : Nat} {fa : List He.Fa} {fn : List He.DefD} {cs : List (Str × D)} {g : Addr → Option Obj} {s : Shared} (h : ∀ a, g a = s.heap.get? a) : obsCG n fa fn cs g = (hookC n fa fn cs).obs s := by
  have e : g = s.heap.get? := funext h
  rw [e] <;> rfl
section
variable {fa : List He.Fa} {fn : List He.DefD} {cs : List (Str × D)} {K : PySem.W.Frag} {h : Heap} {mg : Str → Option Value}
theorem SaysC.d (c : SaysC fa fn cs K) : He.SaysD fa fn K := congrArg (fun z : AlC => z.1) c
theorem SaysC.con (X : K.In h) (G : h.Ns mainGlobals mg) (c : SaysC fa fn cs K) (i : Nat) {x : Str} {d : D} (hi : cs[i]? = some (x, d) := by rfl) : GlobD K mg x d := by
  have c2 : cs.all (conB K) = true := congrArg (fun z : AlC => z.2) c
  have c3 := List.all_eq_true.mp c2 (x, d) (List.mem_of_getElem? hi)
  unfold conB at c3
  cases q : PySem.W.nsIn K mainGlobals x with
  | none => rw [q] at c3; cases c3
  | some o =>
    rw [q] at c3
    cases o with
    | none => cases c3
    | some u =>
      obtain ⟨v, h1, h2⟩ := datB_ok d u c3
      exact ⟨u, v, PySem.W.mg_of X G q, h1, h2⟩
end
end DD

namespace DD
open PySem PySem.Spec PyProof.Rows L2

/-! ### a, b, c = x, y, z -/
def gPar3 (i j k : Nat) (fa : FA) : FS := fun e => match fa e with
  | some (rs, e1) => (match fzs rs e1 with
    | some ([d1, d2, d3], e2) => some (.nx, ((e2.set i (.d d1)).set j (.d d2)).set k (.d d3))
    | _ => none)
  | none => none
def tPar3 (i j k : Nat) (ta : TA) : TS := fun D σ H => ta σ H fun vs H1 => ∃ u v w, vs = [u, v, w] ∧ D.nx (((σ.set i (some u)).set j (some v)).set k (some w)) H1
section
variable {X : Cx} {pos : Pos}
theorem ps_par3 {i j k : Nat} {x y z : Str} {a b c : Expr} {ta : TA} {px py pz pt : Pos} {kt k2 pt2} (hc : X.calm = true) (hN : X.N.Nodup) (hi : X.N[i]? = some x) (hj : X.N[j]? = some y) (hk : X.N[k]? = some z) (hij : i ≠ j) (hik : i ≠ k) (hjk : j ≠ k)
    (hx : X.env.scope.names.lookup x = some .local) (hy : X.env.scope.names.lookup y = some .local) (hz : X.env.scope.names.lookup z = some .local) (ha : PA X [a, b, c] ta)
    (hw : swappedStores [.Tuple [.Name x px, .Name y py, .Name z pz] kt pt] (.Tuple [a, b, c] k2 pt2) X.env = pure (some [x, y, z]))
    (hs : swapsWithSole [.Tuple [.Name x px, .Name y py, .Name z pz] kt pt] (.Tuple [a, b, c] k2 pt2) pos.line X.env = pure false := by rfl) :
    PS X (.Assign [.Tuple [.Name x px, .Name y py, .Name z pz] kt pt] (.Tuple [a, b, c] k2 pt2) pos) (tPar3 i j k ta) := by
  refine ⟨fun pins s σ H D I h => ?_⟩
  rw [exec_Assign_arm]
  refine wpAny_bind (wpAny_standAt ?_)
  rw [hs]
  refine wpAny_bind (wpAny_pure ?_)
  rw [if_neg (by decide)]
  refine wpAny_bind (Tuple_ (thn (ha.run _ pins s σ H _ I h) fun us s1 ⟨vs, H1, I1, r1, q1⟩ => ?_))
  obtain ⟨u, v, w, e1, q1⟩ := q1
  subst e1
  obtain ⟨u1, u2, u3, rfl, ru, rv, rw'⟩ : ∃ u1 u2 u3, us = [u1, u2, u3] ∧ RelV u u1 ∧ RelV v u2 ∧ RelV w u3 := by
    cases r1 with
    | cons p q =>
      cases q with
      | cons p' q' =>
        cases q' with
        | cons p'' q'' =>
          cases q''
          exact ⟨_, _, _, rfl, p, p', p''⟩
  refine wpAny_newObj_type ?_ (by show 3 ≤ sizeLine; decide)
  have I2 : Inv X pins σ H1 { s1 with heap := s1.heap.push { cls := .type "tuple", data := .seq [u1, u2, u3].toArray } } := I1.kept (t' := s1.toks) fun b o e => Heap.get?_push_of_some _ e
  rw [hw]
  refine wpAny_bind (wpAny_pure ?_)
  show wpAny (model X.prog X.w) X.A (do rule "assign.swapped-stores"; let items ← unpackItems (.ref s1.heap.objs.size) 3 none; assignInOrder [fun v => bindName X.env z v, fun v => bindName X.env y v, fun v => bindName X.env x v] items.reverse; pure Flow.next) _ _ _
  refine wpAny_bind (wpAny_rule (wpAny_bind (unpackItems_tuple (items := #[u1, u2, u3]) (I.ok.hd hc) (IsTup.new s1.heap _) fun h' hx' => ?_)))
  have I3 := I2.kept (h' := h') (t' := s1.toks) fun b o e => hx' b o (Nat.ne_of_lt (Heap.lt_size e)) e
  show wpAny _ _ (assignInOrder [fun v => bindName X.env z v, fun v => bindName X.env y v, fun v => bindName X.env x v] [u3, u2, u1] >>= fun _ => pure Flow.next) _ _ _
  refine wpAny_bind (assignInOrder_cons (wpAny_bindName (store_ok I3 hN hk (.inl hz) rw' (fun s2 I4 => ?_) (.inr hz))))
  refine assignInOrder_cons (wpAny_bindName (store_ok I4 hN hj (.inl hy) rv (fun s3 I5 => ?_) (.inr hy)))
  refine assignInOrder_cons (wpAny_bindName (store_ok I5 hN hi (.inl hx) ru (fun s4 I6 => assignInOrder_nil (wpAny_pure ?_)) (.inr hx)))
  rw [List.set_comm _ _ (Ne.symm hjk), List.set_comm _ _ (Ne.symm hik), List.set_comm _ _ (Ne.symm hij)] at I6
  exact ⟨_, H1, I6, q1⟩
theorem ds_par3 (i j k : Nat) {x y z : Str} {a b c : Expr} {fa : FA} {px py pz pt : Pos} {kt k2 pt2} (hN : X.N.Nodup) (ha : DA X [a, b, c] fa) (hij : i ≠ j := by decide) (hik : i ≠ k := by decide) (hjk : j ≠ k := by decide) (hi : X.N[i]? = some x := by rfl) (hj : X.N[j]? = some y := by rfl) (hk : X.N[k]? = some z := by rfl)
    (hx : X.env.scope.names.lookup x = some .local := by rfl) (hy : X.env.scope.names.lookup y = some .local := by rfl) (hz : X.env.scope.names.lookup z = some .local := by rfl)
    (hw : swappedStores [.Tuple [.Name x px, .Name y py, .Name z pz] kt pt] (.Tuple [a, b, c] k2 pt2) X.env = pure (some [x, y, z]) := by rfl)
    (hs : swapsWithSole [.Tuple [.Name x px, .Name y py, .Name z pz] kt pt] (.Tuple [a, b, c] k2 pt2) pos.line X.env = pure false := by rfl) (hc : X.calm = true := by rfl) :
    DS X (.Assign [.Tuple [.Name x px, .Name y py, .Name z pz] kt pt] (.Tuple [a, b, c] k2 pt2) pos) (gPar3 i j k fa) := by
  refine ⟨fun c' hk' => ps_imp (ps_par3 hc hN hi hj hk hij hik hjk hx hy hz (ha.pa c' hk') hw hs) fun Z σ H q => ?_⟩
  obtain ⟨e, R, o, e', he, q⟩ := q
  unfold gPar3 at he
  cases h1 : fa e with
  | none => rw [h1] at he; cases he
  | some p =>
  obtain ⟨rs, e1⟩ := p
  rw [h1] at he; dsimp only at he
  split at he
  · rename_i d1 d2 d3 e2 h2
    cases he
    refine ⟨e, R, rs, e1, h1, fun vs H1 S hrs => ?_⟩
    obtain ⟨S2, hds⟩ := fzs_ok S.rel hrs h2
    match vs, hds with
    | [u, v, w], .cons g1 (.cons g2 (.cons g3 .nil)) =>
      refine ⟨u, v, w, rfl, q _ H1 ?_⟩
      have R1 := S2.rel.set (i := i) g1
      have sm1 : Same (hid (OO c' σ e2.sl) H1) (hid (OO c' (σ.set i (some u)) (e2.sl.set i (.d d1))) H1) := hid_same (fun a z => .inl (OO.set a z)) fun _ _ _ h => h
      have R2 := R1.set (i := j) (dp_mono sm1 g2)
      have sm2 : Same (hid (OO c' (σ.set i (some u)) (e2.sl.set i (.d d1))) H1) (hid (OO c' ((σ.set i (some u)).set j (some v)) ((e2.sl.set i (.d d1)).set j (.d d2))) H1) := hid_same (fun a z => .inl (OO.set a z)) fun _ _ _ h => h
      exact R2.set (i := k) (dp_mono sm2 (dp_mono sm1 g3))
  · cases he
end
end DD

namespace DD
open PySem PySem.Spec PyProof.Rows L2

/-! ### list comprehensions of any number of clauses, at the machine -/
section
variable {prog : Program} {w : World} {A : Around} {R : Result → Shared → Prop} {s : Shared} {elt t0 i0 t1 i1 : Expr} {ifs0 ifs1 : List Expr} {scope : Scope} {pos : Pos} {it acc : Value} {env : Env} {gens : List Comprehension} {k : Nat}
abbrev testsOf (ifs : List Expr) (env : Env) : Sem Bool := forIn ifs true fun c r => if r = true then do let ok ← isTrue c env (eval c env); pure (ForInStep.yield ok) else pure (ForInStep.yield r)
/-- a turn of a clause that has one behind it -/
theorem loop_more (hg : gens[k]? = some ⟨t0, i0, ifs0, 0⟩) (hg1 : gens[k + 1]? = some ⟨t1, i1, ifs1, 0⟩) (hs : ∀ x, foldedSetIterable i1 env x = pure x) (I : Nat → Shared → Prop)
    (turn : ∀ n s, I n s → wpAny (model prog w) A (pyNext it) (fun r s₁ => match r with
      | none => R (.ok .next) s₁
      | some v => wpAny (model prog w) A (letOwnedTupleGo t0 it v) (fun _ sa => wpAny (model prog w) A (assign t0 env v) (fun _ sb =>
          wpAny (model prog w) A (testsOf ifs0 env) (fun ok sc =>
            if ok = true then wpAny (model prog w) A (eval i1 env) (fun x sd => wpAny (model prog w) A (pyIter x) (fun it1 se =>
              codeAny (model prog w) A (.compStart (.ListComp elt gens scope pos) (k + 1) it1 acc env) (fun r s' => match r with
                | .ok _ => ∃ m, m < n ∧ I m s'
                | .error _ => False) se) (fun _ _ => False) sd) (fun _ _ => False) sc
            else ∃ m, m < n ∧ I m sc) (fun _ _ => False) sb) (fun _ _ => False) sa) (fun _ _ => False) s₁) (fun _ _ => False) s)
    (n : Nat) (h : I n s) :
    codeAny (model prog w) A (.compLoop (.ListComp elt gens scope pos) k it acc env) R s := by
  refine codeAny_loop rfl I (fun n s hI => ?_) n h
  show wpAny _ A ((compTurn (.ListComp elt gens scope pos) k it acc env).onRaise _) _ _ s
  refine wpAny_noted ?_
  have nof : ∀ {α : Type} {E : Value → Shared → Prop} {t : Sem α} {Q Q' : α → Shared → Prop} {s : Shared}, wpAny (model prog w) A t Q (fun _ _ => False) s → (∀ a s, Q a s → Q' a s) → wpAny (model prog w) A t Q' E s := fun h f => wpAny_mono h f fun _ _ z => z.elim
  unfold compTurn
  dsimp only
  rw [hg, hg1]
  refine wpAny_bind (wpAny_standAt (wpAny_bind (nof (turn n s hI) fun r s₁ h₁ => ?_)))
  cases r with
  | none => exact wpAny_pure h₁
  | some v =>
    refine wpAny_bind (nof h₁ fun _ sa ha => ?_)
    refine wpAny_bind (nof ha fun _ sb hb => wpAny_bind (nof hb fun ok sc hc => ?_))
    cases ok with
    | false => exact wpAny_pure ⟨rfl, hc⟩
    | true =>
      refine wpAny_bind (nof hc fun x sd hd => ?_)
      refine wpAny_bind (wpAny_standAt (wpAny_bind (wpAny_of_eq (hs x) (wpAny_bind (wpAny_holding (nof hd fun it1 se he => ?_))))))
      refine wpAny_bind (wpAny_runOwn ?_)
      rw [Around.mark_none]
      refine codeAny_mono he fun r s' hr => ?_
      cases r with
      | ok f =>
        first
          | exact wpAny_pure ⟨rfl, hr⟩
          | exact wpAny_bind (wpAny_pure (wpAny_pure ⟨rfl, hr⟩))
      | error e => exact hr.elim
/-- a turn of the last clause -/
theorem loop_last (hg : gens[k]? = some ⟨t0, i0, ifs0, 0⟩) (hg1 : gens[k + 1]? = none) (I : Nat → Shared → Prop)
    (turn : ∀ n s, I n s → wpAny (model prog w) A (pyNext it) (fun r s₁ => match r with
      | none => R (.ok .next) s₁
      | some v => wpAny (model prog w) A (letOwnedTupleGo t0 it v) (fun _ sa => wpAny (model prog w) A (assign t0 env v) (fun _ sb =>
          wpAny (model prog w) A (testsOf ifs0 env) (fun ok sc =>
            if ok = true then wpAny (model prog w) A (eval elt env) (fun x sd =>
              wpAny (model prog w) A (call (.builtin "list.append") [acc, x]) (fun _ se => ∃ m, m < n ∧ I m se) (fun _ _ => False) sd) (fun _ _ => False) sc
            else ∃ m, m < n ∧ I m sc) (fun _ _ => False) sb) (fun _ _ => False) sa) (fun _ _ => False) s₁) (fun _ _ => False) s)
    (n : Nat) (h : I n s) :
    codeAny (model prog w) A (.compLoop (.ListComp elt gens scope pos) k it acc env) R s := by
  refine codeAny_loop rfl I (fun n s hI => ?_) n h
  show wpAny _ A ((compTurn (.ListComp elt gens scope pos) k it acc env).onRaise _) _ _ s
  refine wpAny_noted ?_
  have nof : ∀ {α : Type} {E : Value → Shared → Prop} {t : Sem α} {Q Q' : α → Shared → Prop} {s : Shared}, wpAny (model prog w) A t Q (fun _ _ => False) s → (∀ a s, Q a s → Q' a s) → wpAny (model prog w) A t Q' E s := fun h f => wpAny_mono h f fun _ _ z => z.elim
  unfold compTurn
  dsimp only
  rw [hg, hg1]
  refine wpAny_bind (wpAny_standAt (wpAny_bind (nof (turn n s hI) fun r s₁ h₁ => ?_)))
  cases r with
  | none => exact wpAny_pure h₁
  | some v =>
    refine wpAny_bind (nof h₁ fun _ sa ha => ?_)
    refine wpAny_bind (nof ha fun _ sb hb => wpAny_bind (nof hb fun ok sc hc => ?_))
    cases ok with
    | false => exact wpAny_pure ⟨rfl, hc⟩
    | true =>
      exact wpAny_bind (wpAny_bind (nof hc fun x sd hd => wpAny_bind (nof hd fun _ se he => wpAny_pure (wpAny_pure ⟨rfl, he⟩))))
/-- a later clause's start -/
theorem start_more (hg : gens[k]? = some ⟨t0, i0, ifs0, 0⟩) (h0 : codeAny (model prog w) A (.compLoop (.ListComp elt gens scope pos) k it acc env) R s)
    (h : wpAny (model prog w) A (pyIter it) (fun it' s' => codeAny (model prog w) A (.compLoop (.ListComp elt gens scope pos) k it' acc env) R s')
      (notedBy (model prog w) A env fun x s' => R (.error x) s') s) :
    codeAny (model prog w) A (.compStart (.ListComp elt gens scope pos) k it acc env) R s := by
  refine codeAny_of_tree ?_
  show wpAny _ _ ((compStart (.ListComp elt gens scope pos) k it acc env).onRaise _) _ _ s
  refine wpAny_notedAt ?_
  have hc : (clausesOf (.ListComp elt gens scope pos))[k]? = some ⟨t0, i0, ifs0, 0⟩ := hg
  unfold compStart
  rw [hc]
  show wpAny _ _ (ask >>= _) _ _ s
  refine wpAny_bind (wpAny_askSetting (wpAny_ite ?_))
  split
  · first
      | exact wpAny_bind (wpAny_pure (wpAny_pure (And.intro rfl h0)))
      | exact wpAny_pure (And.intro rfl h0)
  · refine wpAny_bind (wpAny_rule ?_)
    show wpAny _ _ (standAt i0.pos >>= _) _ _ s
    exact wpAny_bind (wpAny_standAt (wpAny_bind (wpAny_mono h (fun it' s' h' => wpAny_pure (And.intro rfl h')) fun _ _ x => x)))
end
end DD

namespace DD
open PySem PySem.Spec PyProof.Rows L2

/-- what is done behind a clause's tests: the list that grows, slots, heap, what a turn is to reach -/
abbrev TCl := Addr → L2.St → Hp → (Hp → Prop) → Prop
section
variable {X0 : Cx} {s3 : Shared} {H3 : Hp} {scope scope' : Scope} {ce : Env} {fp : List Addr} {elt : Expr} {gens : List Comprehension} {pos : Pos} {vs : List Nat}
def clPost (X : Cx) (pins : List (Addr × Obj)) (σ : L2.St) (vs : List Nat) (Nx : Hp → Prop) (s' : Shared) : Prop :=
  ∃ σ' H', Inv X pins σ' H' s' ∧ (wipe σ vs).length = σ'.length ∧ (∀ (j : Nat) v, (wipe σ vs)[j]? = some (some v) → σ'[j]? = some (some v)) ∧ Nx H'
/-- the emit, or the next clause's start and loop -/
structure PCl (X : Cx) (elt : Expr) (gens : List Comprehension) (scope' : Scope) (pos : Pos) (vs : List Nat) (k : Nat) (t : TCl) : Prop where
  last : gens[k]? = none → ∀ (D : Addr) (pins : List (Addr × Obj)) (s : Shared) (σ : L2.St) (H : Hp) (Nx : Hp → Prop), Inv X pins σ H s → t D σ H Nx →
    wpAny (model X.prog X.w) X.A (eval elt X.env) (fun x sd => wpAny (model X.prog X.w) X.A (call (.builtin "list.append") [.ref D, x]) (fun _ se => clPost X pins σ vs Nx se) (fun _ _ => False) sd) (fun _ _ => False) s
  more : ∀ g, gens[k]? = some g → ∀ (D : Addr) (pins : List (Addr × Obj)) (s : Shared) (σ : L2.St) (H : Hp) (Nx : Hp → Prop), Inv X pins σ H s → t D σ H Nx →
    wpAny (model X.prog X.w) X.A (eval g.iter X.env) (fun x sd => wpAny (model X.prog X.w) X.A (pyIter x) (fun it1 se => codeAny (model X.prog X.w) X.A (.compStart (.ListComp elt gens scope' pos) k it1 (.ref D) X.env) (fun r s' => match r with
      | .ok _ => clPost X pins σ vs Nx s'
      | .error _ => False) se) (fun _ _ => False) sd) (fun _ _ => False) s
def tEmit (te : TE) : TCl := fun D σ H Nx => te σ H fun y H4 => ∃ acc, H4 D = some (.lst acc) ∧ acc.length < sizeLine ∧ Nx (upd H4 D (.lst (acc ++ [y])))
def tClause (wi : TI) (g : TG) (tt : TT) (T : TCl) (vs1 : List Nat) : TCl := fun D σ H Nx => wi σ H fun J H4 => ∃ W1 : Nat → Nat → Hp → Prop, (∃ m, W1 0 m H4) ∧ ∀ j k H, W1 j k H →
  (J.stop j H ∧ Nx H) ∨ (J.go j H ∧ ∃ Nx1 : Hp → Prop, (∀ H', Nx1 H' → ∃ k', k' < k ∧ W1 (j + 1) k' H') ∧ ∀ x H', J.yld j H x H' → g x (wipe σ vs1) H' fun σ3 H5 => wipe σ3 vs1 = wipe σ vs1 ∧ tt σ3 H5 fun b H6 =>
    if b = true then T D σ3 H6 Nx1 else Nx1 H6)
theorem pcl_emit {k : Nat} {te : TE} (hg : gens[k]? = none) (he : PE (X0.blk s3 H3 scope ce fp) elt te) : PCl (X0.blk s3 H3 scope ce fp) elt gens scope' pos vs k (tEmit te) where
  last := fun _ D pins s σ H Nx I q => by
    refine thnF (he.run pins s σ H _ I q) fun z s1 ⟨yv, H1, I1, r1, acc, hD, hz, nx⟩ => ?_
    refine app_ok I1 hD hz r1 fun s2 I2 => ⟨σ, _, I2, wipe_length _ _, fun j v e => (wipe_some e).1, nx⟩
  more := fun g h => by rw [hg] at h; cases h
theorem wipe_wipe {σ σ' : L2.St} {vs1 vs : List Nat} (hv : ∀ i ∈ vs1, i ∈ vs) (h : wipe σ' vs1 = wipe σ vs1) : wipe σ' vs = wipe σ vs := by
  refine List.ext_getElem? fun j => ?_
  have hl : σ'.length = σ.length := by
    have := congrArg List.length h
    rwa [wipe_length, wipe_length] at this
  by_cases q : j ∈ vs
  · rw [wipe_in q, wipe_in q, hl]
  · rw [wipe_out q, wipe_out q]
    have := congrArg (fun l => l[j]?) h
    rwa [wipe_out (fun z => q (hv j z)), wipe_out (fun z => q (hv j z))] at this
/-- a clause's loop in the block, its iterator at hand -/
theorem clause_loop {k : Nat} {tg1 iter1 : Expr} {ifs1 : List Expr} {g1 : TG} {tt1 : TT} {T : TCl} {vs1 : List Nat} (hc : X0.calm = true) (hg : gens[k]? = some ⟨tg1, iter1, ifs1, 0⟩)
    (pg1 : PG (X0.blk s3 H3 scope ce fp) tg1 g1) (pt1 : PTs (X0.blk s3 H3 scope ce fp) ifs1 tt1)
    (hT : PCl (X0.blk s3 H3 scope ce fp) elt gens scope' pos vs1 (k + 1) T) (hn : ∀ g, gens[k + 1]? = some g → g.is_async = 0 ∧ ∀ env x, foldedSetIterable g.iter env x = pure x)
    {D it1 : Addr} {pins : List (Addr × Obj)} {fq : List Addr} {tn1 : Nat → Heap → Prop} {J1 : It} {σ8 : L2.St} {s11 : Shared} {Hx : Hp} (T1 : Turn X0.prog X0.w X0.K tg1 J1 fq it1 tn1)
    (stat : ∀ (H' : Hp) (σ' : L2.St) (s' : Shared), Inv (X0.blk s3 H3 scope ce fp) pins σ' H' s' → (∀ b ∈ fq, H' b = none) → ∀ b ∈ fq, FpOk (X0.blk s3 H3 scope ce fp) pins H' b)
    {W1 : Nat → Nat → Hp → Prop} {m1 : Nat} {Ns : Hp → Prop} (w1 : W1 0 m1 Hx)
    (turn1 : ∀ j k H, W1 j k H → (J1.stop j H ∧ Ns H) ∨ (J1.go j H ∧ ∃ Nx1 : Hp → Prop, (∀ H', Nx1 H' → ∃ k', k' < k ∧ W1 (j + 1) k' H') ∧ ∀ x H', J1.yld j H x H' → g1 x (wipe σ8 vs1) H' fun σa Ha => wipe σa vs1 = wipe σ8 vs1 ∧ tt1 σa Ha fun b Hb =>
      if b = true then T D σa Hb Nx1 else Nx1 Hb))
    (I11 : Inv (X0.blk s3 H3 scope ce fp) pins (wipe σ8 vs1) Hx s11) (st11 : tn1 0 s11.heap) (n11 : ∀ b ∈ fq, Hx b = none) {R : Result → Shared → Prop}
    (hR : ∀ s' H', Inv (X0.blk s3 H3 scope ce fp) pins (wipe σ8 vs1) H' s' → Ns H' → R (.ok .next) s') :
    codeAny (model X0.prog X0.w) X0.A (.compLoop (.ListComp elt gens scope' pos) k (.ref it1) (.ref D) ce) R s11 := by
  have key : ∀ n sa, (∃ j Ha, Inv (X0.blk s3 H3 scope ce fp) pins (wipe σ8 vs1) Ha sa ∧ tn1 j sa.heap ∧ (∀ b ∈ fq, Ha b = none) ∧ W1 j n Ha) →
      wpAny (model X0.prog X0.w) X0.A (pyNext (.ref it1)) (fun r s₁ => match r with
        | none => R (.ok .next) s₁
        | some v => wpAny (model X0.prog X0.w) X0.A (letOwnedTupleGo tg1 (.ref it1) v) (fun _ sb => wpAny (model X0.prog X0.w) X0.A (assign tg1 ce v) (fun _ sc =>
            wpAny (model X0.prog X0.w) X0.A (testsOf ifs1 ce) (fun ok sd => ∃ (σb : L2.St) (Hb : Hp) (p2 : List (Addr × Obj)) (Nx1 : Hp → Prop), Inv (X0.blk s3 H3 scope ce fp) p2 σb Hb sd ∧ (if ok = true then T D σb Hb Nx1 else Nx1 Hb) ∧
              ∀ s', clPost (X0.blk s3 H3 scope ce fp) p2 σb vs1 Nx1 s' → ∃ m, m < n ∧ ∃ j Ha, Inv (X0.blk s3 H3 scope ce fp) pins (wipe σ8 vs1) Ha s' ∧ tn1 j s'.heap ∧ (∀ b ∈ fq, Ha b = none) ∧ W1 j m Ha) (fun _ _ => False) sc) (fun _ _ => False) sb) (fun _ _ => False) s₁) (fun _ _ => False) sa := by
    rintro n sa ⟨j, Ha, Ia, sta, na, wa⟩
    rcases turn1 j n Ha wa with ⟨stop1, nx1⟩ | ⟨go1, Nx1, hNx1, step1⟩
    · refine thnF (T1.done (X0.blk s3 H3 scope ce fp) rfl rfl rfl hc j _ sa (wipe σ8 vs1) Ha (fun _ _ => False) Ia (stat _ _ _ Ia na) sta stop1) fun r sb ⟨hr, Ib⟩ => ?_
      subst hr
      exact hR sb Ha Ib nx1
    · refine thnF (T1.item (X0.blk s3 H3 scope ce fp) rfl rfl rfl hc j _ sa (wipe σ8 vs1) Ha (fun _ _ => False) Ia (stat _ _ _ Ia na) sta go1) fun r sb ⟨u1, hr, hb⟩ => ?_
      subst hr
      refine thnF hb fun _ sc ⟨xc, Hc, Ic, rc, yc, stc, nc⟩ => ?_
      have Ip := Ic.pinned (stat _ _ _ Ic nc) (T1.obj _ _ stc)
      refine thnF (pg1.run _ sc (wipe σ8 vs1) Hc xc u1 _ Ip rc (step1 xc Hc yc)) fun _ sd ⟨σd, Hd, Id, hwd, qd⟩ => ?_
      refine thnF (pt1.run _ sd σd Hd _ Id qd) fun b1 se ⟨He, Ie, qe⟩ => ?_
      refine ⟨σd, He, _, Nx1, Ie, qe, fun s' ⟨σ', H', I', hl, hk, nx⟩ => ?_⟩
      obtain ⟨m', hm, w'⟩ := hNx1 H' nx
      have pin' : ∀ b ∈ fq, ∀ o, sc.heap.get? b = some o → s'.heap.get? b = some o ∧ H' b = none := fun b hb o e =>
        let z := I'.pin (b, o) (List.mem_append_right _ (List.mem_append_right _ (mem_pinsAt hb e)))
        ⟨z.1, z.2.1⟩
      rw [hwd] at hl hk
      refine ⟨m', hm, j + 1, H', (I'.unpinned (pins := pins)).weak hl hk, T1.keep _ _ _ stc fun b hb o e => (pin' b hb o e).1, fun b hb => ?_, w'⟩
      obtain ⟨o, e, _⟩ := T1.obj _ _ stc b hb
      exact (pin' b hb o e).2
  have start : ∃ j Ha, Inv (X0.blk s3 H3 scope ce fp) pins (wipe σ8 vs1) Ha s11 ∧ tn1 j s11.heap ∧ (∀ b ∈ fq, Ha b = none) ∧ W1 j m1 Ha := ⟨0, Hx, I11, st11, n11, w1⟩
  cases hg1 : gens[k + 1]? with
  | none =>
    refine loop_last hg hg1 (fun n sa => ∃ j Ha, Inv (X0.blk s3 H3 scope ce fp) pins (wipe σ8 vs1) Ha sa ∧ tn1 j sa.heap ∧ (∀ b ∈ fq, Ha b = none) ∧ W1 j n Ha) (fun n sa ha => ?_) m1 start
    refine thnF (key n sa ha) fun r s1 h1 => ?_
    cases r with
    | none => exact h1
    | some v =>
      refine thnF h1 fun _ sb hb => thnF hb fun _ sc hc => thnF hc fun ok sd ⟨σb, Hb, p2, Nx1, Ib, qb, fin⟩ => ?_
      cases ok with
      | false => exact fin _ ⟨σb, Hb, Ib, wipe_length _ _, fun j v e => (wipe_some e).1, qb⟩
      | true => exact thnF (hT.last hg1 D p2 sd σb Hb Nx1 Ib qb) fun x se he => thnF he fun _ sf hf => fin sf hf
  | some g' =>
    obtain ⟨ha, hs'⟩ := hn g' hg1
    obtain ⟨t', i', f', a'⟩ := g'
    dsimp only at ha
    subst ha
    refine loop_more hg hg1 (hs' ce) (fun n sa => ∃ j Ha, Inv (X0.blk s3 H3 scope ce fp) pins (wipe σ8 vs1) Ha sa ∧ tn1 j sa.heap ∧ (∀ b ∈ fq, Ha b = none) ∧ W1 j n Ha) (fun n sa ha => ?_) m1 start
    refine thnF (key n sa ha) fun r s1 h1 => ?_
    cases r with
    | none => exact h1
    | some v =>
      refine thnF h1 fun _ sb hb => thnF hb fun _ sc hc => thnF hc fun ok sd ⟨σb, Hb, p2, Nx1, Ib, qb, fin⟩ => ?_
      cases ok with
      | false => exact fin _ ⟨σb, Hb, Ib, wipe_length _ _, fun j v e => (wipe_some e).1, qb⟩
      | true =>
        refine thnF (hT.more _ hg1 D p2 sd σb Hb Nx1 Ib qb) fun x se he => thnF he fun it2 sf hf => codeAny_mono hf fun r s' hr => ?_
        cases r with
        | ok f => exact fin s' hr
        | error e => exact hr
theorem pcl_clause {k : Nat} {tg1 iter1 : Expr} {ifs1 : List Expr} {wi1 : TI} {g1 : TG} {tt1 : TT} {T : TCl} {vs1 : List Nat} (hc : X0.calm = true) (hv : ∀ i ∈ vs1, i ∈ vs) (hg : gens[k]? = some ⟨tg1, iter1, ifs1, 0⟩)
    (pi1 : PI (X0.blk s3 H3 scope ce fp) tg1 iter1 wi1) (pg1 : PG (X0.blk s3 H3 scope ce fp) tg1 g1) (pt1 : PTs (X0.blk s3 H3 scope ce fp) ifs1 tt1)
    (hT : PCl (X0.blk s3 H3 scope ce fp) elt gens scope' pos vs1 (k + 1) T) (hn : ∀ g, gens[k + 1]? = some g → g.is_async = 0 ∧ ∀ env x, foldedSetIterable g.iter env x = pure x) :
    PCl (X0.blk s3 H3 scope ce fp) elt gens scope' pos vs k (tClause wi1 g1 tt1 T vs1) where
  last := fun h => by rw [hg] at h; cases h
  more := fun g h D pins sa σ8 Ha Nx Ia qa => by
    rw [hg] at h; cases h
    refine thnF (pi1.run pins sa σ8 Ha _ Ia qa) fun xv sb hx => thnF hx fun itv sc hcc => ?_
    obtain ⟨it1, fq, tn1, J1, Hc, e1, Ic, T1, stc, fc, W1, ⟨m1, w1⟩, turn1⟩ := hcc
    subst e1
    have loop1 := clause_loop (R := fun r s' => match r with
          | .ok _ => clPost (X0.blk s3 H3 scope ce fp) pins σ8 vs Nx s'
          | .error _ => False) hc hg pg1 pt1 hT hn T1 (fun H' σ' s' _ hn b hb => ⟨hn b hb, (fc b hb).2⟩) w1 turn1 (Ic.weak (wipe_length _ _) (fun j v e => (wipe_some e).1)) stc (fun b hb => (fc b hb).1) (fun s' H' I' nx => ⟨wipe σ8 vs1, H', I', by rw [wipe_length, wipe_length], fun j v e => by
        obtain ⟨e1, e2⟩ := wipe_some e
        rw [wipe_out fun z => e2 (hv j z)]
        exact e1, nx⟩)
    exact start_more hg loop1 (T1.self X0.A 0 _ _ _ stc loop1)
end
end DD

namespace DD
open PySem PySem.Spec PyProof.Rows L2

/-! ### the whole comprehension -/
section
variable {X : Cx}
def tLcN (wi : TI) (g : TG) (tt : TT) (T : TCl) (vs : List Nat) : TE := fun σ H Q => wi σ H fun J H1 => ∀ D, H1 D = none → ∃ W : Nat → Nat → Hp → Prop, (∃ m, W 0 m (upd H1 D (.lst []))) ∧ ∀ i m H, W i m H →
  (J.stop i H ∧ Q (.ref D) H) ∨ (J.go i H ∧ ∃ Nx : Hp → Prop, (∀ H', Nx H' → ∃ m', m' < m ∧ W (i + 1) m' H') ∧ ∀ x H', J.yld i H x H' → g x (wipe σ vs) H' fun σ2 H2 => wipe σ2 vs = wipe σ vs ∧ tt σ2 H2 fun b H3 =>
    if b = true then T D σ2 H3 Nx else Nx H3)
theorem lcN_core {pins : List (Addr × Obj)} {s : Shared} {σ : L2.St} {H : Hp} {Q : VK} {elt tg iter : Expr} {ifs : List Expr} {rest : List Comprehension} {scope : Scope} {own : List (Str × Nat)} {pos pos' : Pos} {wi : TI} {g : TG} {tt : TT} {T : TCl} {use : Option (Value → Sem Unit)} {Qf : Value → Shared → Prop}
    (hc : X.calm = true) (hN : X.N.Nodup) (I : Inv X pins σ H s) (hi : PI X tg iter wi) (ok : BlkOk X.N X.env.scope scope own)
    (hg : ∀ (s : Shared) (H : Hp) (C : Addr) (cl : List (Str × Addr)) (fp : List Addr), PG (X.blk s H scope (compEnvC scope cl C X.env) fp) tg g)
    (ht : ∀ (s : Shared) (H : Hp) (C : Addr) (cl : List (Str × Addr)) (fp : List Addr), PTs (X.blk s H scope (compEnvC scope cl C X.env) fp) ifs tt)
    (hT : ∀ (s : Shared) (H : Hp) (C : Addr) (cl : List (Str × Addr)) (fp : List Addr), PCl (X.blk s H scope (compEnvC scope cl C X.env) fp) elt (⟨tg, iter, ifs, 0⟩ :: rest) scope pos (own.map (·.2)) 1 T)
    (hn : ∀ g, rest[0]? = some g → g.is_async = 0 ∧ ∀ env x, foldedSetIterable g.iter env x = pure x) (hs : ∀ x, foldedSetIterable iter X.env x = pure x)
    (h : tLcN wi g tt T (own.map (·.2)) σ H Q)
    (hRR : ∀ D C s' m H', Inv X pins σ H' s' → Q (.ref D) H' → s'.heap.Ns C m → FpOk X pins H' C → compPost (model X.prog X.w) X.A X.xe use Qf (.ref D) C (.ok .next) s') :
    wpAny (model X.prog X.w) X.A (comprehension (.ListComp elt (⟨tg, iter, ifs, 0⟩ :: rest) scope pos) scope X.env pos' (newList []) false (eval iter X.env) use) Qf X.xe s := by
  have cells : ∀ y ∈ scope.names, y.2 = .free → ∃ c, X.env.cells.lookup y.1 = some c := fun y hy e => (ok.free y hy e).elim (fun k => I.ok.has _ (.inl k)) fun k => I.ok.has _ (.inr k)
  refine wpAny_comprehension_free rfl hs (closure_ok cells) ok.kind (fun y hy e => (ok.uniq y hy).trans (congrArg some e)) (thn (hi.run pins s σ H _ I h) fun xv sa hx => thn hx fun itv sb hb => ?_)
  obtain ⟨it, fq, tn, J, Hb, rfl, Ib, Tw, stb, fb, q⟩ := hb
  refine wpAny_newObj_type (newEnv_comp ?_) (Nat.zero_le _)
  obtain ⟨D, eD⟩ : ∃ D, sb.heap.objs.size = D := ⟨_, rfl⟩
  have hD : Hb D = none := Ib.hok.fresh (Nat.le_of_eq eD)
  obtain ⟨W, ⟨m0, w0⟩, turn⟩ := q D hD
  obtain ⟨sc, esc⟩ : ∃ sc : Shared, { sb with heap := sb.heap.push { cls := .type "list", data := .seq ([] : List Value).toArray } } = sc := ⟨_, rfl⟩
  have hsc : sc.heap = sb.heap.push { cls := .type "list", data := .seq ([] : List Value).toArray } := by rw [← esc]
  have Ic : Inv X pins σ (upd Hb D (.lst [])) sc := by
    rw [← esc]
    refine Ib.laid (t' := sb.toks) (fun b o e => Heap.get?_push_of_some _ e) (Nat.le_of_eq eD) ⟨Nat.zero_le _, [], 0, .nil, ?_⟩
    subst eD
    exact Heap.get?_push_size _ rfl
  have fc : ∀ b ∈ fq, FpOk X pins (upd Hb D (.lst [])) b ∧ b < sc.heap.objs.size := fun b hb => by
    obtain ⟨o, e, _⟩ := Tw.obj _ _ stb b hb
    have hlt := Heap.lt_size e
    refine ⟨⟨?_, (fb b hb).2⟩, ?_⟩
    · rw [upd_ne (fun z => by rw [z, ← eD] at hlt; exact Nat.lt_irrefl _ hlt)]
      exact (fb b hb).1
    · rw [hsc, Heap.size_push]; exact Nat.lt_succ_of_lt hlt
  have stc : tn 0 sc.heap := Tw.keep _ _ _ stb fun b _ o e => by rw [hsc]; exact Heap.get?_push_of_some _ e
  have Id := block_start Ic ok hN fc
  obtain ⟨cl, ecl⟩ : ∃ cl, cellsFrom (sc.heap.objs.size + 1) scope.names (cloFrom X.env.cells scope.names []) = cl := ⟨_, rfl⟩
  rw [ecl] at Id
  rw [esc, ecl, eD]
  show codeAny _ _ (.compStart (.ListComp elt (⟨tg, iter, ifs, 0⟩ :: rest) scope pos) 0 (.ref it) (.ref D) (compEnvC scope cl sc.heap.objs.size X.env)) (compPost (model X.prog X.w) X.A X.xe use Qf (.ref D) sc.heap.objs.size) { sc with heap := pushCells (sc.heap.push { cls := .type "dict", data := .dict #[] }) scope.names }
  have loop := clause_loop (R := compPost (model X.prog X.w) X.A X.xe use Qf (.ref D) sc.heap.objs.size) (Ns := Q (.ref D)) hc (gens := ⟨tg, iter, ifs, 0⟩ :: rest) (k := 0) rfl (hg sc (upd Hb D (.lst [])) sc.heap.objs.size cl fq) (ht sc (upd Hb D (.lst [])) sc.heap.objs.size cl fq)
    (hT sc (upd Hb D (.lst [])) sc.heap.objs.size cl fq) (fun g' e => hn g' e) (pins := []) Tw
    (fun H' σ' s' I' hn b hb => ⟨hn b hb, (I'.ok.exf b hb).1, I'.ok.exfs b hb, .inl hb, fun x c e => (I'.ok.exf b hb).2 x c e, fun p hp => absurd (show p ∈ ([] : List (Addr × Obj)) ++ [] from hp) (by simp)⟩)
    w0 turn Id (Tw.keep _ _ _ stc fun b _ o e => pushCells_keeps _ _ _ _ (Heap.get?_push_of_some _ e)) (fun b hb => (fc b hb).1.1) fun s' H' I' qq => by
      have Ix : Inv X pins σ H' s' := Ic.call' (ch := fq) I'.os I'.base I'.hok I'.bare fun b hb => ⟨(fc b hb).1.2.2.2.1, (fc b hb).1.2.1, (fc b hb).1.2.2.2.2.1, (fc b hb).1.2.2.2.2.2⟩
      have nC : H' sc.heap.objs.size = none := I'.free
      obtain ⟨m, hm, _⟩ := I'.loc
      exact hRR D sc.heap.objs.size s' m H' Ix qq hm (Ic.fpOk (Nat.le_refl _) nC)
  exact codeAny_compStart_list loop (Tw.self X.A 0 _ _ _ (Tw.keep _ _ _ stc fun b _ o e => pushCells_keeps _ _ _ _ (Heap.get?_push_of_some _ e)) loop)
theorem pe_lcN {elt tg iter : Expr} {ifs : List Expr} {rest : List Comprehension} {scope : Scope} {own : List (Str × Nat)} {pos : Pos} {wi : TI} {g : TG} {tt : TT} {T : TCl} (hc : X.calm = true) (hN : X.N.Nodup) (hi : PI X tg iter wi) (ok : BlkOk X.N X.env.scope scope own)
    (hg : ∀ (s : Shared) (H : Hp) (C : Addr) (cl : List (Str × Addr)) (fp : List Addr), PG (X.blk s H scope (compEnvC scope cl C X.env) fp) tg g)
    (ht : ∀ (s : Shared) (H : Hp) (C : Addr) (cl : List (Str × Addr)) (fp : List Addr), PTs (X.blk s H scope (compEnvC scope cl C X.env) fp) ifs tt)
    (hT : ∀ (s : Shared) (H : Hp) (C : Addr) (cl : List (Str × Addr)) (fp : List Addr), PCl (X.blk s H scope (compEnvC scope cl C X.env) fp) elt (⟨tg, iter, ifs, 0⟩ :: rest) scope pos (own.map (·.2)) 1 T)
    (hn : ∀ g, rest[0]? = some g → g.is_async = 0 ∧ ∀ env x, foldedSetIterable g.iter env x = pure x) (hs : ∀ x, foldedSetIterable iter X.env x = pure x) :
    PE X (.ListComp elt (⟨tg, iter, ifs, 0⟩ :: rest) scope pos) (tLcN wi g tt T (own.map (·.2))) := by
  refine ⟨fun pins s σ H Q I h => ?_⟩
  rw [eval_ListComp]
  refine lcN_core hc hN I hi ok hg ht hT hn hs h fun D C s' m H' I' q hm f => ⟨m, hm, fun h'' sb => ?_⟩
  obtain ⟨f0, f1, f2, f3, f4, f5⟩ := f
  exact ⟨.ref D, H', I'.turned (t' := s'.toks) (fun b o hb e => (sb.2 b hb).trans e) f0 f1 f3 f4 f5, rfl, q⟩
end
end DD

namespace DD
open PySem PySem.Spec PyProof.Rows L2

/-! ### comprehensions of several clauses, over data -/
abbrev FC := List D → ES → Option (List D × ES)
def cEmit (fe : FX) : FC := fun acc e => match fe e with
  | some (r, e1) => (match fz r e1 with
    | some (y, e2) => if acc.length < 16000000 then some (acc ++ [y], e2) else none
    | none => none)
  | none => none
def cLoop (vs : List Nat) (gt : FG) (ft : FT) (body : FC) : List D → FC
  | [], acc, e => some (acc, e)
  | d :: ds, acc, e => match gt d e with
    | some e2 => (match ft e2 with
      | some (true, e3) => (match body acc e3 with
        | some (acc', e4) => cLoop vs gt ft body ds acc' (wipeE vs e4)
        | none => none)
      | some (false, e3) => cLoop vs gt ft body ds acc (wipeE vs e3)
      | none => none)
    | none => none
def cFor (vs : List Nat) (fi : FL) (gt : FG) (ft : FT) (body : FC) : FC := fun acc e => match fi e with
  | some (ds, e1) => cLoop vs gt ft body ds acc (wipeE vs e1)
  | none => none
def xCompN (vs : List Nat) (fi : FL) (gt : FG) (ft : FT) (body : FC) : FL := fun e => match fi e with
  | some (ds, e1) => (match cLoop vs gt ft body ds [] (wipeE vs e1) with
    | some (xs, e2) => some (xs, restoreE vs e1 e2)
    | none => none)
  | none => none
/-- all that a turn leaves -/
structure CSt (c : Ct) (Da : Addr) (ws : List V) (σ : Sg) (H : Hp) (e : ES) (acc : List D) : Prop where
  rel : Rel (c.plus Da ws) σ H e
  at_ : H Da = some (.lst ws)
  all : DqAll c.K (hid (OO (c.plus Da ws) σ e.sl) H) ws acc
/-- .. and what has stood stands -/
structure CStp (c : Ct) (Da : Addr) (ws : List V) (σ : Sg) (H : Hp) (e : ES) (ws' : List V) (σ' : Sg) (H' : Hp) (e' : ES) : Prop where
  same : Same (hid (OO (c.plus Da ws) σ e.sl) H) (hid (OO (c.plus Da ws') σ' e'.sl) H')
  shr : ∀ a, OO (c.plus Da ws') σ' e'.sl a → OO (c.plus Da ws) σ e.sl a
def tCl (c : Ct) (vs : List Nat) (body : FC) : TCl := fun Da σ H Nx => (c.tp = true → Da ≠ c.t) ∧ ∃ e acc ws, CSt c Da ws σ H e acc ∧ ∃ acc' e', body acc e = some (acc', e') ∧
  ∀ σ' H' ws', wipe σ' vs = wipe σ vs → CSt c Da ws' σ' H' e' acc' → CStp c Da ws σ H e ws' σ' H' e' → Nx H'
def tClx (K : PySem.W.Frag) (vs : List Nat) (body : FC) : TCl := fun Da σ H Nx => ∃ c : Ct, c.K = K ∧ tCl c vs body Da σ H Nx
def tIx (K : PySem.W.Frag) (fi : FL) : TI := fun σ H R => ∃ c : Ct, c.K = K ∧ tI c fi σ H R
structure DCl (X : Cx) (elt : Expr) (gens : List Comprehension) (scope : Scope) (pos : Pos) (vs vs1 : List Nat) (k : Nat) (body : FC) : Prop where
  pcl : PCl X elt gens scope pos vs k (tClx X.K vs1 body)
theorem pcl_imp {X : Cx} {elt : Expr} {gens : List Comprehension} {scope : Scope} {pos : Pos} {vs : List Nat} {k : Nat} {t t' : TCl} (h : PCl X elt gens scope pos vs k t) (i : ∀ Da σ H Nx, t' Da σ H Nx → t Da σ H Nx) : PCl X elt gens scope pos vs k t' :=
  ⟨fun hg Da pins s σ H Nx I q => h.last hg Da pins s σ H Nx I (i Da σ H Nx q), fun g hg Da pins s σ H Nx I q => h.more g hg Da pins s σ H Nx I (i Da σ H Nx q)⟩
theorem CStp.refl {c : Ct} {Da : Addr} {ws : List V} {σ : Sg} {H : Hp} {e : ES} : CStp c Da ws σ H e ws σ H e := ⟨fun _ _ h => h, fun _ h => h⟩
theorem CStp.trans {c : Ct} {Da : Addr} {ws ws1 ws2 : List V} {σ σ1 σ2 : Sg} {H H1 H2 : Hp} {e e1 e2 : ES} (a : CStp c Da ws σ H e ws1 σ1 H1 e1) (b : CStp c Da ws1 σ1 H1 e1 ws2 σ2 H2 e2) : CStp c Da ws σ H e ws2 σ2 H2 e2 :=
  ⟨fun x o h => b.same x o (a.same x o h), fun x h => a.shr x (b.shr x h)⟩
theorem CStp.of {c : Ct} {Da : Addr} {ws : List V} {σ : Sg} {H H' : Hp} {e e' : ES} (S : Stp (c.plus Da ws) σ e H e' H') : CStp c Da ws σ H e ws σ H' e' := ⟨S.same, S.shr⟩
/-- a step within the turn -/
theorem CSt.step {c : Ct} {Da : Addr} {ws : List V} {σ : Sg} {H H' : Hp} {e e' : ES} {acc : List D} (hd : c.tp = true → Da ≠ c.t) (C : CSt c Da ws σ H e acc) (S : Stp (c.plus Da ws) σ e H e' H') : CSt c Da ws σ H' e' acc :=
  ⟨S.rel, S.rel.ext Da _ upd_same hd, dpAll_mono S.same C.all⟩
theorem CSt.wipe {c : Ct} {Da : Addr} {ws : List V} {σ : Sg} {H : Hp} {e : ES} {acc : List D} (C : CSt c Da ws σ H e acc) (vs : List Nat) : CSt c Da ws (L2.wipe σ vs) H (wipeE vs e) acc ∧ CStp c Da ws σ H e ws (L2.wipe σ vs) H (wipeE vs e) := by
  obtain ⟨Rk, sk⟩ := C.rel.wipe vs
  have sm : Same (hid (OO (c.plus Da ws) σ e.sl) H) (hid (OO (c.plus Da ws) (L2.wipe σ vs) (wipeE vs e).sl) H) := hid_same (fun a z => .inl (sk a z)) fun _ _ _ h => h
  exact ⟨⟨Rk, C.at_, dpAll_mono sm C.all⟩, ⟨sm, sk⟩⟩
theorem wipe2 {σ : Sg} {vs : List Nat} : wipe (wipe σ vs) vs = wipe σ vs := by
  refine List.ext_getElem? fun j => ?_
  by_cases q : j ∈ vs
  · rw [wipe_in q, wipe_in q, wipe_length]
  · rw [wipe_out q]
section
variable {X : Cx} {elt tg iter : Expr} {ifs : List Expr} {fi : FL} {gt : FG} {ft : FT} {fe : FX} {is vs : List Nat} {body : FC}
theorem emit_core {K : PySem.W.Frag} {Da : Addr} {σ : Sg} {H : Hp} {Nx : Hp → Prop} {vs : List Nat} (q : tClx K vs (cEmit fe) Da σ H Nx) : tEmit (tDx K fe) Da σ H Nx := by
  obtain ⟨c, rfl, hd, e, acc, ws, C, acc', e', he, q⟩ := q
  unfold cEmit at he
  cases q1 : fe e with
  | none => rw [q1] at he; cases he
  | some p =>
  obtain ⟨r, e1⟩ := p
  rw [q1] at he; dsimp only at he
  cases q2 : fz r e1 with
  | none => rw [q2] at he; cases he
  | some p =>
  obtain ⟨y, e2⟩ := p
  rw [q2] at he; dsimp only at he
  split at he
  · rename_i hz
    cases he
    refine ⟨c.plus Da ws, rfl, e, C.rel, r, e1, q1, fun v H1 S hr => ?_⟩
    obtain ⟨S2, hy⟩ := fz_ok S.rel hr q2
    have S3 := S.trans S2
    have C3 := C.step hd S3
    refine ⟨ws, C3.at_, by rw [dpAll_len C3.all, sizeLine_eq]; omega, ?_⟩
    have Rn := S3.rel.replus (ws := ws ++ [v]) hd
    have sm : Same (hid (OO (c.plus Da ws) σ e'.sl) H1) (hid (OO (c.plus Da (ws ++ [v])) σ e'.sl) (upd H1 Da (.lst (ws ++ [v])))) := hid_same (fun a z => .inl ((OO.plus a).mpr ((OO.plus a).mp z))) fun a o n h => by
      rw [upd_ne (fun z => n (by subst z; exact (OO.plus _).mpr (.inr rfl)))]
      exact h
    exact q σ _ (ws ++ [v]) rfl ⟨Rn, upd_same, dpAll_app (dpAll_mono sm C3.all) (.cons (dp_mono sm hy) .nil)⟩ (CStp.trans (CStp.of S3) ⟨sm, fun a z => (OO.plus a).mpr ((OO.plus a).mp z)⟩)
  · cases he
theorem clause_core {K : PySem.W.Frag} {Da : Addr} {σ : Sg} {H : Hp} {Nx : Hp → Prop} {vs1 vs2 : List Nat} (hi : ∀ i ∈ is, i ∈ vs1) (h2 : ∀ i ∈ vs2, i ∈ vs1) (q : tClx K vs1 (cFor vs1 fi gt ft body) Da σ H Nx) :
    tClause (tIx K fi) (tGx K is gt) (tTx K ft) (tClx K vs2 body) vs1 Da σ H Nx := by
  obtain ⟨c, rfl, hd, e, acc, ws, C, accF, eF, he, q⟩ := q
  unfold cFor at he
  cases q1 : fi e with
  | none => rw [q1] at he; cases he
  | some p =>
  obtain ⟨ds, e1⟩ := p
  rw [q1] at he; dsimp only at he
  refine ⟨c.plus Da ws, rfl, e, C.rel, ds, e1, q1, fun J H1 S wk => ?_⟩
  have C1 := C.step hd S
  obtain ⟨C2, P2⟩ := C1.wipe vs1
  refine ⟨fun i m Hi => ∃ ei ai wi, i ≤ ds.length ∧ m = ds.length - i ∧ CSt c Da wi (wipe σ vs1) Hi ei ai ∧ CStp c Da ws σ H1 e1 wi (wipe σ vs1) Hi ei ∧ cLoop vs1 gt ft body (ds.drop i) ai ei = some (accF, eF),
    ⟨_, wipeE vs1 e1, acc, ws, Nat.zero_le _, rfl, C2, P2, he⟩, ?_⟩
  rintro i m Hi ⟨ei, ai, wi, hil, rfl, Ci, Pi, hl⟩
  have w := wk (OO (c.plus Da wi) (wipe σ vs1) ei.sl) Hi Pi.same Ci.rel.hidden
  by_cases hlt : i < ds.length
  · obtain ⟨d, hdd⟩ : ∃ d, ds[i]? = some d := ⟨ds[i], by simp [hlt]⟩
    obtain ⟨g1, g2⟩ := w.2 i d hdd
    refine .inr ⟨g1, fun Hn => ∃ en an wn, CSt c Da wn (wipe σ vs1) Hn en an ∧ CStp c Da ws σ H1 e1 wn (wipe σ vs1) Hn en ∧ cLoop vs1 gt ft body (ds.drop (i + 1)) an en = some (accF, eF),
      fun Hn ⟨en, an, wn, b1, b2, b3⟩ => ⟨ds.length - (i + 1), by omega, en, an, wn, hlt, rfl, b1, b2, b3⟩, fun x Hx y => ?_⟩
    obtain ⟨sm, hx⟩ := g2 x Hx y
    have hdr : ds.drop i = d :: ds.drop (i + 1) := by
      rw [List.drop_eq_getElem_cons hlt]
      congr 1
      exact (List.getElem?_eq_some_iff.mp hdd).2
    rw [hdr] at hl
    unfold cLoop at hl
    have S0 : Stp (c.plus Da wi) (wipe σ vs1) ei Hi ei Hx := Stp.grow Ci.rel sm
    have C0 := Ci.step hd S0
    cases q2 : gt d ei with
    | none => rw [q2] at hl; cases hl
    | some ej =>
    rw [q2] at hl; dsimp only at hl
    refine ⟨c.plus Da wi, rfl, ei, d, C0.rel, hx, ej, q2, fun σ2 R2 k2 => ?_⟩
    have ew : wipe σ2 vs1 = wipe σ vs1 := (wipe_eq hi (σ := wipe σ vs1) (by rw [wipe2]; exact k2.at_) (by rw [wipe2]; exact k2.len)).trans wipe2
    refine ⟨ew, ?_⟩
    have s2 : Same (hid (OO (c.plus Da wi) (wipe σ vs1) ei.sl) Hx) (hid (OO (c.plus Da wi) σ2 ej.sl) Hx) := hid_same (fun a z => .inl (k2.sh a z)) fun _ _ _ h => h
    have C3 : CSt c Da wi σ2 Hx ej ai := ⟨R2, C0.at_, dpAll_mono s2 C0.all⟩
    have P3 : CStp c Da ws σ H1 e1 wi σ2 Hx ej := Pi.trans ((CStp.of S0).trans ⟨s2, k2.sh⟩)
    cases q3 : ft ej with
    | none => rw [q3] at hl; cases hl
    | some p =>
    obtain ⟨b, ek⟩ := p
    rw [q3] at hl
    refine ⟨c.plus Da wi, rfl, ej, R2, b, ek, q3, fun H3 S3 => ?_⟩
    have C4 := C3.step hd S3
    have P4 := P3.trans (CStp.of S3)
    cases b with
    | false =>
      dsimp only at hl
      refine iteF ?_
      obtain ⟨C5, P5⟩ := C4.wipe vs1
      rw [ew] at C5 P5
      exact ⟨wipeE vs1 ek, ai, wi, C5, P4.trans P5, hl⟩
    | true =>
      dsimp only at hl
      refine iteT ?_
      cases q4 : body ai ek with
      | none => rw [q4] at hl; cases hl
      | some p =>
      obtain ⟨a5, e5⟩ := p
      rw [q4] at hl; dsimp only at hl
      refine ⟨c, rfl, hd, ek, ai, wi, C4, a5, e5, q4, fun σ' H' ws' hw C6 P6 => ?_⟩
      obtain ⟨C7, P7⟩ := C6.wipe vs1
      have ew2 : wipe σ' vs1 = wipe σ vs1 := (wipe_wipe h2 hw).trans ew
      rw [ew2] at C7 P7
      exact ⟨wipeE vs1 e5, a5, ws', C7, (P4.trans P6).trans P7, hl⟩
  · have ei' : i = ds.length := by omega
    subst ei'
    rw [List.drop_length] at hl
    cases hl
    exact .inl ⟨w.1, q _ _ wi wipe2 Ci ((CStp.of S).trans Pi)⟩
end
end DD

namespace DD
open PySem PySem.Spec PyProof.Rows L2

section
variable {X : Cx} {elt tg iter : Expr} {ifs : List Expr} {fi : FL} {gt : FG} {ft : FT} {fe : FX} {is vs : List Nat} {body : FC}
theorem comp_coreN {K : PySem.W.Frag} {c : Ct} {σ : Sg} {H : Hp} {Q : VK} {vs2 : List Nat} (hc : c.K = K) (hi : ∀ i ∈ is, i ∈ vs) (h2v : ∀ i ∈ vs2, i ∈ vs) (q : tL c (xCompN vs fi gt ft body) σ H Q) : tLcN (tI c fi) (tGx K is gt) (tTx K ft) (tClx K vs2 body) vs σ H Q := by
  subst hc
  obtain ⟨e, R, xs, e', he, q⟩ := q
  unfold xCompN at he
  cases h1 : fi e with
  | none => rw [h1] at he; cases he
  | some p =>
  obtain ⟨ds, e1⟩ := p
  rw [h1] at he; dsimp only at he
  cases h2 : cLoop vs gt ft body ds [] (wipeE vs e1) with
  | none => rw [h2] at he; cases he
  | some p =>
  obtain ⟨xs', e2⟩ := p
  rw [h2] at he
  cases he
  refine ⟨e, R, ds, e1, h1, fun J H1 S wk Da hD => ?_⟩
  have R1 := S.rel
  have Rp := R1.pin
  have hDt : (c.pin σ e1 H1).tp = true → Da ≠ (c.pin σ e1 H1).t := fun z w => by
    subst w; exact R1.hidden _ (.inl (R1.ok.hot z)) hD
  obtain ⟨Rw, sw⟩ := Rp.wipe vs
  have toC : ∀ {ws : List V} {σ' : Sg} {sl : List Sl} {a : Addr}, OO c σ' sl a → OO ((c.pin σ e1 H1).plus Da ws) σ' sl a := fun {ws σ' sl a} z => by
    rcases z with z | z
    · exact .inl (.inl z)
    · exact .inr z
  have ofC : ∀ {ws : List V} {σ' : Sg} {sl : List Sl} {a : Addr}, OO ((c.pin σ e1 H1).plus Da ws) σ' sl a → OO c σ' sl a ∨ a = Da := fun {ws σ' sl a} z => by
    rcases z with (z | z) | z
    · exact .inl (.inl z)
    · exact .inr z
    · exact .inl (.inr z)
  have notD : ∀ {ws : List V} {σ' : Sg} {H' : Hp} {ek : ES}, Rel ((c.pin σ e1 H1).plus Da ws) σ' H' ek → ¬ OO c σ' ek.sl Da := fun {ws σ' H' ek} Rk z => by
    rcases z with z | ⟨j, ys, g1, g2⟩
    · exact R1.hidden Da (.inl z) hD
    · obtain ⟨b, us, k1, k2, _⟩ := (Rk.slots j _ g1).mine
      rw [g2] at k1; cases k1
      have k2' : upd (c.pin σ e1 H1).H0 Da (.lst ws) Da = none := k2
      rw [upd_same] at k2'; cases k2'
  have shC : ∀ {ws ws' : List V} {σa σb : Sg} {Ha Hb : Hp} {ea eb : ES}, Rel ((c.pin σ e1 H1).plus Da ws') σb Hb eb → CStp (c.pin σ e1 H1) Da ws σa Ha ea ws' σb Hb eb → (∀ a, OO c σa ea.sl a → OO c σ e1.sl a) → ∀ a, OO c σb eb.sl a → OO c σ e1.sl a := fun Rb P h a z => by
    rcases ofC (P.shr a (toC z)) with y | y
    · exact h a y
    · subst y; exact absurd z (notD Rb)
  have start : CSt (c.pin σ e1 H1) Da [] (wipe σ vs) (upd H1 Da (.lst [])) (wipeE vs e1) [] := ⟨Rw.plus hD upd_same (same_upd hD), upd_same, .nil⟩
  refine ⟨fun i m H => ∃ ei acc ws, i ≤ ds.length ∧ m = ds.length - i ∧ CSt (c.pin σ e1 H1) Da ws (wipe σ vs) H ei acc ∧ (∀ a, OO c (wipe σ vs) ei.sl a → OO c σ e1.sl a) ∧ cLoop vs gt ft body (ds.drop i) acc ei = some (xs, e2),
    ⟨_, wipeE vs e1, [], [], Nat.zero_le _, rfl, start, sw, h2⟩, ?_⟩
  rintro i m H ⟨ei, acc, ws, hil, rfl, Ci, shi, hl⟩
  have w := wk (OO ((c.pin σ e1 H1).plus Da ws) (wipe σ vs) ei.sl) H (R1.pin_lePlus hD Ci.rel) Ci.rel.hidden
  by_cases hlt : i < ds.length
  · obtain ⟨d, hd⟩ : ∃ d, ds[i]? = some d := ⟨ds[i], by simp [hlt]⟩
    obtain ⟨w1, w2⟩ := w.2 i d hd
    refine .inr ⟨w1, fun H' => ∃ ei acc ws, CSt (c.pin σ e1 H1) Da ws (wipe σ vs) H' ei acc ∧ (∀ a, OO c (wipe σ vs) ei.sl a → OO c σ e1.sl a) ∧ cLoop vs gt ft body (ds.drop (i + 1)) acc ei = some (xs, e2),
      fun H' ⟨ei, acc, ws, a1, a2, a3⟩ => ⟨ds.length - (i + 1), by omega, ei, acc, ws, hlt, rfl, a1, a2, a3⟩, fun x H'' y => ?_⟩
    obtain ⟨sm, hx⟩ := w2 x H'' y
    have hdr : ds.drop i = d :: ds.drop (i + 1) := by
      rw [List.drop_eq_getElem_cons hlt]
      congr 1
      exact (List.getElem?_eq_some_iff.mp hd).2
    rw [hdr] at hl
    unfold cLoop at hl
    have S0 : Stp ((c.pin σ e1 H1).plus Da ws) (wipe σ vs) ei H ei H'' := Stp.grow Ci.rel sm
    have C0 := Ci.step hDt S0
    cases q2 : gt d ei with
    | none => rw [q2] at hl; cases hl
    | some ej =>
    rw [q2] at hl; dsimp only at hl
    refine ⟨(c.pin σ e1 H1).plus Da ws, rfl, ei, d, C0.rel, hx, ej, q2, fun σ2 R2 k2 => ?_⟩
    have ew : wipe σ2 vs = wipe σ vs := wipe_eq hi k2.at_ k2.len
    refine ⟨ew, ?_⟩
    have s2 : Same (hid (OO ((c.pin σ e1 H1).plus Da ws) (wipe σ vs) ei.sl) H'') (hid (OO ((c.pin σ e1 H1).plus Da ws) σ2 ej.sl) H'') := hid_same (fun a z => .inl (k2.sh a z)) fun _ _ _ h => h
    have C3 : CSt (c.pin σ e1 H1) Da ws σ2 H'' ej acc := ⟨R2, C0.at_, dpAll_mono s2 C0.all⟩
    have P3 : CStp (c.pin σ e1 H1) Da ws (wipe σ vs) H ei ws σ2 H'' ej := (CStp.of S0).trans ⟨s2, k2.sh⟩
    cases q3 : ft ej with
    | none => rw [q3] at hl; cases hl
    | some p =>
    obtain ⟨b, ek⟩ := p
    rw [q3] at hl
    refine ⟨(c.pin σ e1 H1).plus Da ws, rfl, ej, R2, b, ek, q3, fun H3 S3 => ?_⟩
    have C4 := C3.step hDt S3
    have P4 := P3.trans (CStp.of S3)
    cases b with
    | false =>
      dsimp only at hl
      refine iteF ?_
      obtain ⟨C5, P5⟩ := C4.wipe vs
      rw [ew] at C5 P5
      exact ⟨wipeE vs ek, acc, ws, C5, shC C5.rel (P4.trans P5) shi, hl⟩
    | true =>
      dsimp only at hl
      refine iteT ?_
      cases q4 : body acc ek with
      | none => rw [q4] at hl; cases hl
      | some p =>
      obtain ⟨a5, e5⟩ := p
      rw [q4] at hl; dsimp only at hl
      refine ⟨c.pin σ e1 H1, rfl, hDt, ek, acc, ws, C4, a5, e5, q4, fun σ' H' ws' hw C6 P6 => ?_⟩
      obtain ⟨C7, P7⟩ := C6.wipe vs
      have ew2 : wipe σ' vs = wipe σ vs := (wipe_wipe h2v hw).trans ew
      rw [ew2] at C7 P7
      exact ⟨wipeE vs e5, a5, ws', C7, shC C7.rel ((P4.trans P6).trans P7) shi, hl⟩
  · have ei' : i = ds.length := by omega
    subst ei'
    rw [List.drop_length] at hl
    cases hl
    refine .inl ⟨w.1, ?_⟩
    have h0 : (c.pin σ e1 H1).H0 Da = none := Rp.fresh hD
    have Rc := R1.unpinPlus Ci.rel h0 Ci.at_
    obtain ⟨Rf, sf⟩ := Rc.resl (σ' := σ) (sl' := restoreSl e1.sl e2.sl vs) (by
      rw [restoreSl_len, ← Ci.rel.len, wipe_length]) fun j s hj => by
        rcases restoreSl_get hj with z | ⟨z1, z2⟩ | ⟨z1, x, z2, z3⟩
        · exact .inl z
        · exact .inr (.inl ⟨z2, (wipe_out z1).symm⟩)
        · obtain ⟨v', g1, g2⟩ := R1.slots j _ z2
          exact .inr (.inr ⟨x, v', z3, g1, dp_mono (R1.pin_lePlus hD Ci.rel) g2⟩)
    refine q Da ws H (R1.fresh hD) Ci.at_ Rf (fun a z => ?_) (fun a o n h => ?_) (dpAll_mono (hid_same (fun a z => .inl (sf a z)) fun _ _ _ h => h) Ci.all)
    · rcases (OO.plus a).mp (sf a ((OO.plus a).mpr (.inl z))) with y | y
      · exact S.shr a (shi a y)
      · subst y
        rcases z with z | ⟨j, ys, g1, g2⟩
        · exact absurd hD (R1.hidden a (.inl z))
        · obtain ⟨b, us, k1, k2, _⟩ := (Rf.slots j _ g1).mine
          rw [g2] at k1; cases k1
          have k2' : upd c.H0 a (.lst ws) a = none := k2
          rw [upd_same] at k2'; cases k2'
    · have h1 := S.fr a o n h
      have n1 : ¬ OO c σ e1.sl a := fun z => n (S.shr a z)
      exact (hid_some (R1.pin_lePlus hD Ci.rel a o (hid_of n1 h1))).2
theorem dcl_emit {X0 : Cx} {s3 : Shared} {H3 : Hp} {scope scope' : Scope} {ce : Env} {fp : List Addr} {gens : List Comprehension} {pos : Pos} {k : Nat} (he : DE (X0.blk s3 H3 scope ce fp) elt fe) (hg : gens[k]? = none := by rfl) :
    DCl (X0.blk s3 H3 scope ce fp) elt gens scope' pos vs [] k (cEmit fe) :=
  ⟨pcl_imp (pcl_emit (te := tDx X0.K fe) hg ⟨fun pins s' σ H' Q I ⟨c', h1, h2⟩ => (he.pe c' h1).run pins s' σ H' Q I h2⟩) fun _ _ _ _ q => emit_core q⟩
theorem dcl_for {X0 : Cx} {s3 : Shared} {H3 : Hp} {scope scope' : Scope} {ce : Env} {fp : List Addr} {gens : List Comprehension} {pos : Pos} {k : Nat} {tg1 iter1 : Expr} {ifs1 : List Expr} {vs1 vs2 : List Nat}
    (pi1 : DI (X0.blk s3 H3 scope ce fp) tg1 iter1 fi) (pg1 : DG (X0.blk s3 H3 scope ce fp) tg1 is gt) (pt1 : DTs (X0.blk s3 H3 scope ce fp) ifs1 ft) (hT : DCl (X0.blk s3 H3 scope ce fp) elt gens scope' pos vs1 vs2 (k + 1) body)
    (hv : ∀ i ∈ vs1, i ∈ vs := by decide) (hi : ∀ i ∈ is, i ∈ vs1 := by decide) (h2 : ∀ i ∈ vs2, i ∈ vs1 := by decide) (hg : gens[k]? = some ⟨tg1, iter1, ifs1, 0⟩ := by rfl)
    (hn : ∀ g, gens[k + 1]? = some g → g.is_async = 0 ∧ ∀ env x, foldedSetIterable g.iter env x = pure x := by (intro g h; first | (cases h; exact ⟨rfl, fun _ _ => rfl⟩) | cases h)) (hc : X0.calm = true := by rfl) :
    DCl (X0.blk s3 H3 scope ce fp) elt gens scope' pos vs vs1 k (cFor vs1 fi gt ft body) :=
  ⟨pcl_imp (pcl_clause (wi1 := tIx X0.K fi) (g1 := tGx X0.K is gt) (tt1 := tTx X0.K ft) (T := tClx X0.K vs2 body) hc hv hg
    ⟨fun pins s σ H R I ⟨c', h1, h2⟩ => (pi1.pi c' h1).run pins s σ H R I h2⟩ ⟨fun pins s' σ H' v u Q I r ⟨c', h1, h2⟩ => (pg1.pg c' h1).run pins s' σ H' v u Q I r h2⟩
    ⟨fun pins s' σ H' Q I ⟨c', h1, h2⟩ => (pt1.pts c' h1).run pins s' σ H' Q I h2⟩ hT.pcl hn) fun _ _ _ _ q => clause_core hi h2 q⟩
theorem dl_compN {rest : List Comprehension} {scope : Scope} {pos : Pos} {vs2 : List Nat} (own : List (Str × Nat)) (hN : X.N.Nodup) (hi : DI X tg iter fi) (ok : BlkOk X.N X.env.scope scope own) (hv : ∀ i ∈ is, i ∈ own.map (·.2)) (h2v : ∀ i ∈ vs2, i ∈ own.map (·.2))
    (hg : ∀ (s : Shared) (H : Hp) (C : Addr) (cl : List (Str × Addr)) (fp : List Addr), DG (X.blk s H scope (compEnvC scope cl C X.env) fp) tg is gt) (ht : ∀ (s : Shared) (H : Hp) (C : Addr) (cl : List (Str × Addr)) (fp : List Addr), DTs (X.blk s H scope (compEnvC scope cl C X.env) fp) ifs ft)
    (hT : ∀ (s : Shared) (H : Hp) (C : Addr) (cl : List (Str × Addr)) (fp : List Addr), DCl (X.blk s H scope (compEnvC scope cl C X.env) fp) elt (⟨tg, iter, ifs, 0⟩ :: rest) scope pos (own.map (·.2)) vs2 1 body)
    (hn : ∀ g, rest[0]? = some g → g.is_async = 0 ∧ ∀ env x, foldedSetIterable g.iter env x = pure x := by (intro g h; first | (cases h; exact ⟨rfl, fun _ _ => rfl⟩) | cases h))
    (hs : ∀ x, foldedSetIterable iter X.env x = pure x := by intro _; rfl) (hc : X.calm = true := by rfl) :
    DL X (.ListComp elt (⟨tg, iter, ifs, 0⟩ :: rest) scope pos) (xCompN (own.map (·.2)) fi gt ft body) :=
  ⟨fun c hk => pe_imp (pe_lcN hc hN (hi.pi c hk) ok (g := tGx X.K is gt) (tt := tTx X.K ft) (T := tClx X.K vs2 body)
    (fun s H C cl fp => ⟨fun pins s' σ H' v u Q I r ⟨c', h1, h2⟩ => ((hg s H C cl fp).pg c' h1).run pins s' σ H' v u Q I r h2⟩)
    (fun s H C cl fp => ⟨fun pins s' σ H' Q I ⟨c', h1, h2⟩ => ((ht s H C cl fp).pts c' h1).run pins s' σ H' Q I h2⟩) (fun s H C cl fp => (hT s H C cl fp).pcl) hn hs) fun σ H Q q => comp_coreN hk hv h2v q⟩
end
end DD

namespace DD
open PySem PySem.Spec PyProof.Rows L2

/-! ### x.replace(y, z) of written texts, where a token is out -/
structure DET (X : Cx) (x : Expr) (f : FX) : Prop where
  pet : ∀ c : Ct, c.K = X.K → PET X x (tD c f)
structure DAT (X : Cx) (xs : List Expr) (f : FA) : Prop where
  pat : ∀ c : Ct, c.K = X.K → PAT X xs (tA c f)
structure DST (X : Cx) (st : Stmt) (g : FS) : Prop where
  pst : ∀ c : Ct, c.K = X.K → PST X st (tS c g)
structure DBT (X : Cx) (st : List Stmt) (g : FS) : Prop where
  psst : ∀ c : Ct, c.K = X.K → PSsT X st (tS c g)
/-- a test behind which a token is out -/
def PTk (X : Cx) (e : Expr) (t : TT) : Prop :=
  ∀ (pins : List (Addr × Obj)) (s : Shared) (σ : Sg) (H : Hp) (Q : Bool → Hp → Prop), Inv X pins σ H s → t σ H Q → wpAny (model X.prog X.w) X.A (isTrue e X.env (eval e X.env)) (fun b s' => 1 ≤ s'.toks ∧ TP X pins σ Q b s') X.xe s
structure DTk (X : Cx) (x : Expr) (f : FT) : Prop where
  ptk : ∀ c : Ct, c.K = X.K → PTk X x (tT c f)
section
variable {X : Cx} {a b x : Expr} {es : List Expr} {f fa fb : FX} {fs : FA} {ft : FT} {g g1 g2 : FS} {pos p : Pos} {st : Stmt} {rest : List Stmt} {y z : Str} {j k : Nat} {c0 c1 apos : Pos}
theorem pet_imp {t t' : TE} (h : PET X x t) (i : ∀ σ H Q, t' σ H Q → t σ H Q) : PET X x t' := fun pins s σ H Q h0 I q => h pins s σ H Q h0 I (i σ H Q q)
theorem pat_imp {t t' : TA} (h : PAT X es t) (i : ∀ σ H Q, t' σ H Q → t σ H Q) : PAT X es t' := fun p pins s σ H Q h0 I q => h p pins s σ H Q h0 I (i σ H Q q)
theorem pst_imp {t t' : TS} (h : PST X st t) (i : ∀ Z σ H, t' Z σ H → t Z σ H) : PST X st t' := fun pins s σ H Z h0 I q => h pins s σ H Z h0 I (i Z σ H q)
theorem det_of (h : DE X x f) : DET X x f := ⟨fun c hc => CwR.PET.of (h.pe c hc)⟩
def xRepl (y z : Str) (f : FX) : FX := fun e => match f e with
  | some (.d (.str x), e1) => if replOk x z = true then some (.d (.str (Txt.replace x y z)), e1) else none
  | _ => none
theorem det_repl (h : DE X x f) (hyz : (y == z) = false := by decide)
    (hst : starEach [.Constant (.str y) j c0, .Constant (.str z) k c1] X.env = [(false, eval (.Constant (.str y) j c0) X.env), (false, eval (.Constant (.str z) k c1) X.env)] := by rfl)
    (hbase : attributeBase x "replace" X.env (eval x X.env) = eval x X.env := by rfl) (hline : (apos.endLine == pos.line) = true := by rfl) :
    DET X (.Call (.Attribute x "replace" apos) [.Constant (.str y) j c0, .Constant (.str z) k c1] [] pos) (xRepl y z f) := by
  refine ⟨fun c hc => pet_imp (CwR.pet_replC (h.pe c hc) hyz hst hbase hline) fun σ H Q q => ?_⟩
  obtain ⟨e, R, r, e', he, q⟩ := q
  unfold xRepl at he
  split at he
  · rename_i xs e1 h1
    split at he
    · rename_i hok
      cases he
      refine ⟨e, R, _, _, h1, fun v H2 S hv => ?_⟩
      cases hv with
      | str => exact ⟨xs, rfl, of_decide_eq_true hok, q _ H2 S (.str _)⟩
    · cases he
  · cases he
theorem det_bin {op : Operator} {r : R2} {g : D → D → Option D} (ho : OpR X (binaryOp op) r) (hg : OpD X.K r g) (ha : DET X a fa) (hb : DET X b fb) : DET X (.BinOp a op b pos) (xBin g fa fb) :=
  ⟨fun c hc => pet_imp (CwR.pet_op ho (ha.pet c hc) (hb.pet c hc)) fun _ _ _ q => bin_imp hg hc q⟩
theorem dat_nil : DAT X [] aNil := ⟨fun c hc => pat_imp pat_nil fun σ H Q q => by
  obtain ⟨e, R, rs, e', he, q⟩ := q
  cases he
  exact q [] H (Stp.refl R) True.intro⟩
theorem dat_cons (ha : DET X a fa) (hr : DAT X es fs) (hs : starEach (a :: es) X.env = (false, eval a X.env) :: starEach es X.env := by rfl) : DAT X (a :: es) (aCons fa fs) := by
  refine ⟨fun c hc => pat_imp (pat_cons (ha.pet c hc) (hr.pat c hc) hs) fun σ H Q q => ?_⟩
  obtain ⟨e, R, rs, e', he, q⟩ := q
  unfold aCons at he
  cases h1 : fa e with
  | none => rw [h1] at he; cases he
  | some p1 =>
  obtain ⟨r1, e1⟩ := p1
  rw [h1] at he; dsimp only at he
  cases h2 : fs e1 with
  | none => rw [h2] at he; cases he
  | some p2 =>
  obtain ⟨rs2, e2⟩ := p2
  rw [h2] at he; cases he
  exact ⟨e, R, r1, e1, h1, fun v H1 S hr => ⟨e1, S.rel, rs2, _, h2, fun vs H2 T hrs => q (v :: vs) H2 (S.trans T) ⟨RvR.step T hr, hrs⟩⟩⟩
theorem pet_tup {kk : Nat} {t : TA} (h : PAT X es t) : PET X (.Tuple es kk pos) (tTup t) := by
  intro pins s σ H Q h0 I hq
  refine wpAny_Tuple_spliced (thn (h pos pins s σ H _ h0 I hq) fun us sa ⟨xs, Ha, Ia, r, zz, q⟩ => ⟨by rw [← r.length]; exact zz, ?_⟩)
  have fresh : Ha sa.heap.objs.size = none := Ia.hok.fresh (Nat.le_refl _)
  exact ⟨.ref sa.heap.objs.size, upd Ha sa.heap.objs.size (.tup xs), Ia.laid (t' := sa.toks) (fun b u e => Heap.get?_push_of_some _ e) (Nat.le_refl _) ⟨zz, us, r, ⟨_, Heap.get?_push_size _ rfl, rfl, _, rfl⟩⟩, rfl, q _ fresh⟩
theorem det_tup {kk : Nat} (h : DAT X es fs) : DET X (.Tuple es kk pos) (xTup fs) := by
  refine ⟨fun c hc => pet_imp (pet_tup (h.pat c hc)) fun σ H Q q => ?_⟩
  obtain ⟨e, R, r, e', he, q⟩ := q
  unfold xTup at he
  cases h1 : fs e with
  | none => rw [h1] at he; cases he
  | some p1 =>
  obtain ⟨rs, e1⟩ := p1
  rw [h1] at he; dsimp only at he
  cases h2 : fzs rs e1 with
  | none => rw [h2] at he; cases he
  | some p2 =>
  obtain ⟨ds, e2⟩ := p2
  rw [h2] at he; dsimp only at he
  split at he
  · rename_i hl
    cases he
    refine ⟨e, R, rs, e1, h1, fun vs H1 S hrs => ?_⟩
    obtain ⟨S2, hds⟩ := fzs_ok S.rel hrs h2
    have S3 := S.trans S2
    refine ⟨by rw [dpAll_len hds]; exact big16 hl, fun p hp => ?_⟩
    have sm : Same H1 (upd H1 p (.tup vs)) := fun a o z => by rw [upd_ne (ne_of_none z hp)]; exact z
    have S4 := S3.trans (Stp.grow S3.rel sm)
    exact q _ _ S4 (.tup (.of (hid_of (fun z => S3.rel.hidden p z hp) upd_same)) (dpAll_mono (hid_same0 sm) hds))
  · cases he
theorem dst_ret (h : DET X x f) : DST X (.Return (some x) pos) (gRet f) := by
  refine ⟨fun c hc => pst_imp (CwR.pst_ret (h.pet c hc)) fun Z σ H q => ?_⟩
  obtain ⟨e, R, o, e', he, q⟩ := q
  unfold gRet at he
  cases q1 : f e with
  | none => rw [q1] at he; cases he
  | some p =>
    obtain ⟨r, e1⟩ := p
    rw [q1] at he; cases he
    exact ⟨e, R, r, _, q1, fun v H' S hr => q σ v H' S.rel hr⟩
theorem dbt_one (h : DST X st g) : DBT X [st] g := by
  refine ⟨fun c hc pins s σ H Z h0 I q => CwR.psst_one (h.pst c hc) pins s σ H Z h0 I q⟩
/-- name == number -/
theorem dtk_eqI {i : Int} {r : R2} {g : D → D → Option D} {op : CmpOp} (ho : OpR X (compareOp op) r) (hg : OpD X.K r g) (ha : DE X a fa) (hm : behindInMarks op (.Constant (.int i) j c0) = false := by rfl) :
    DTk X (.Compare a [op] [.Constant (.int i) j c0] pos) (tOf (xBin g fa (xC (.int i)))) := by
  refine ⟨fun c hc pins s σ H Q I q => ?_⟩
  have h : tTest (tOp r (tD c fa) (tD c (xC (.int i)))) σ H Q := bin_imp hg hc (tof_imp q)
  refine wpAny_isTrue_Compare1 (thn ((ha.pe c hc).run pins s σ H _ I h) fun v s1 ⟨x, H1, I1, r1, q1⟩ => wpAny_Constant_int ?_) hm
  have I2 := I1.tok (s1.toks + 1)
  obtain ⟨e, R, rr, e', he, q1⟩ := q1
  cases he
  have q2 := q1 (.int i) H1 (Stp.refl R) (.int i)
  refine thn (wpAny_mono (PySem.wpAny_toks (ho pins { s1 with toks := s1.toks + 1 } σ H1 x (.int i) v (.int i s1.toks) _ I2 r1 ⟨_, rfl⟩ q2)) (fun _ _ z => z) fun _ _ z => z.2) fun cc s3 ⟨hk, zz, H3, I3, r3, kk, ee, q3⟩ => ?_
  subst ee
  cases r3
  have hk' : s1.toks + 1 ≤ s3.toks := hk
  exact wpAny_truthy_bool ⟨by omega, H3, I3, q3⟩
theorem ps_ifk {c : Expr} {A B : List Stmt} {tc : TT} {t u : TS} (hc : PTk X c tc) (ha : PSsT X A t) (hb : PSsT X B u) : PS X (.If c A B pos) (tIfS tc t u) := by
  refine ⟨fun pins s σ H Z I h => ?_⟩
  refine wpAny_If (thn (hc pins s σ H _ I h) fun d s1 ⟨h0, H1, I1, q1⟩ => ?_)
  cases d with
  | true => exact ha pins s1 σ H1 Z h0 I1 q1
  | false => exact hb pins s1 σ H1 Z h0 I1 q1
theorem dbt_of {sts : List Stmt} (h : DB X sts g) : DBT X sts g := ⟨fun c hc => PSsT.of (h.pb c hc)⟩
theorem ds_ifk {t : Expr} {A B : List Stmt} (ht : DTk X t ft) (ha : DBT X A g1) (hb : DBT X B g2) : DS X (.If t A B pos) (gIf ft g1 g2) := by
  refine ⟨fun c hc => ps_imp (ps_ifk (ht.ptk c hc) (ha.psst c hc) (hb.psst c hc)) fun Z σ H q => ?_⟩
  obtain ⟨e, R, o, e', he, q⟩ := q
  unfold gIf at he
  cases q1 : ft e with
  | none => rw [q1] at he; cases he
  | some p =>
    obtain ⟨k, e1⟩ := p
    rw [q1] at he
    cases k with
    | true => exact ⟨e, R, true, e1, q1, fun H1 S => iteT ⟨e1, S.rel, o, e', he, q⟩⟩
    | false => exact ⟨e, R, false, e1, q1, fun H1 S => iteF ⟨e1, S.rel, o, e', he, q⟩⟩
end
end DD

namespace DD
open PySem PySem.Spec PyProof.Rows L2

/-! ### a, b = x, [..] where b is one's own -/
def gParO (i j : Nat) (f : FX) (g : FL) : FS := fun e => match f e with
  | some (r, e1) => (match g e1 with
    | some (xs, e2) => (match fz r e2 with
      | some (d, e3) => some (.nx, (e3.set i (.d d)).set j (.own xs))
      | none => none)
    | none => none)
  | none => none
def tLx (K : PySem.W.Frag) (g : FL) : TE := fun σ H Q => ∃ c : Ct, c.K = K ∧ tL c g σ H Q
theorem ds_parO (i j : Nat) {X : Cx} {pos : Pos} {y z : Str} {a b : Expr} {f : FX} {g : FL} {px py pt : Pos} {kt k2 pt2} (hN : X.N.Nodup) (ha : DE X a f) (hb : DL X b g) (hij : i ≠ j := by decide) (hi : X.N[i]? = some y := by rfl) (hj : X.N[j]? = some z := by rfl)
    (hx : X.env.scope.names.lookup y = some .local := by rfl) (hy : X.env.scope.names.lookup z = some .local := by rfl)
    (hw : swappedStores [.Tuple [.Name y px, .Name z py] kt pt] (.Tuple [a, b] k2 pt2) X.env = pure (some [y, z]) := by rfl)
    (hs : swapsWithSole [.Tuple [.Name y px, .Name z py] kt pt] (.Tuple [a, b] k2 pt2) pos.line X.env = pure false := by rfl) (hc : X.calm = true := by rfl)
    (hs1 : starEach [a, b] X.env = (false, eval a X.env) :: starEach [b] X.env := by rfl) (hs2 : starEach [b] X.env = (false, eval b X.env) :: starEach [] X.env := by rfl) :
    DS X (.Assign [.Tuple [.Name y px, .Name z py] kt pt] (.Tuple [a, b] k2 pt2) pos) (gParO i j f g) := by
  have hbx : PE X b (tLx X.K g) := ⟨fun pins s σ H Q I ⟨c', h1, h2⟩ => (hb.pl c' h1).run pins s σ H Q I h2⟩
  refine ⟨fun c hk => ps_imp (ps_par hc hN hi hj hij hx hy (pa_cons (ha.pe c hk) (pa_cons hbx pa_nil hs2) hs1) hw hs) fun Z σ H q => ?_⟩
  obtain ⟨e, R, o, e', he, q⟩ := q
  unfold gParO at he
  cases h1 : f e with
  | none => rw [h1] at he; cases he
  | some p =>
  obtain ⟨r, e1⟩ := p
  rw [h1] at he; dsimp only at he
  cases h2 : g e1 with
  | none => rw [h2] at he; cases he
  | some p =>
  obtain ⟨xs, e2⟩ := p
  rw [h2] at he; dsimp only at he
  cases h3 : fz r e2 with
  | none => rw [h3] at he; cases he
  | some p =>
  obtain ⟨d, e3⟩ := p
  rw [h3] at he
  cases he
  refine ⟨e, R, r, e1, h1, fun v H1 S hr => ⟨c.pin σ e1 H1, hk, e1, S.rel.pin, xs, e2, h2, fun p vs H2 h0 hp Rp sh fr ds => ?_⟩⟩
  have R1 := S.rel
  have Rc : Rel (c.plus p vs) σ H2 e2 := R1.unpinPlus Rp h0 hp
  have sm : Same (hid (OO c σ e1.sl) H1) (hid (OO (c.plus p vs) σ e2.sl) H2) := hid_same (fun a z => by
    rcases (OO.plus a).mp z with z | z
    · exact .inl (sh a z)
    · subst z
      by_cases w : OO c σ e1.sl a
      · exact .inl w
      · right
        cases hh : H1 a with
        | none => rfl
        | some o => rw [pin_of hh fun q => w q.1] at h0; cases h0) fr
  have hr2 : RvR (c.plus p vs) σ H2 e2.sl v r := by
    cases r with
    | d x => exact dp_mono sm hr
    | own k => exact hr
    | tape => exact hr
  obtain ⟨S3, hd⟩ := fz_ok Rc hr2 h3
  have h0c : c.H0 p = none := R1.pin_fresh h0
  have R4 := S3.rel.set (i := i) hd
  have s4 : Same (hid (OO (c.plus p vs) σ e3.sl) H2) (hid (OO (c.plus p vs) (σ.set i (some v)) (e3.set i (.d d)).sl) H2) := hid_same (fun a z => .inl (OO.set a z)) fun _ _ _ h => h
  have ds2 : DqAll c.K (hid (OO (c.plus p vs) σ e2.sl) H2) vs xs := ds
  have R5 := R4.setOwn R1.ok h0c hp (i := j) (xs := xs) (dpAll_mono s4 (dpAll_mono S3.same ds2))
  exact ⟨v, .ref p, rfl, q _ H2 R5⟩
end DD

namespace DD
open PySem PySem.Spec PyProof.Rows L2

/-! ### more on a list of one's own: y[k] = x, y.pop(k), y.insert(k, x), y[::-1] -/
def gIst (i : Nat) (ix f : FX) : FS := fun e => match f e with
  | some (r, e1) => (match fz r e1 with
    | some (d, e2) => (match e2.sl[i]? with
      | some (.own _) => (match ix e2 with
        | some (.d (.int k), e3) => (match e3.sl[i]? with
          | some (.own xs) => (match ixN xs.length k with
            | some j => some (.nx, e3.set i (.own (xs.set j d)))
            | none => none)
          | _ => none)
        | _ => none)
      | _ => none)
    | none => none)
  | none => none
def gPopAt (i : Nat) (ix : FX) : FS := fun e => match e.sl[i]? with
  | some (.own _) => (match ix e with
    | some (.d (.int k), e1) => (match e1.sl[i]? with
      | some (.own xs) => if 0 ≤ k ∧ k < xs.length ∧ k < 4611686018427387904 then some (.nx, e1.set i (.own (xs.eraseIdx k.toNat))) else none
      | _ => none)
    | _ => none)
  | _ => none
def gIns (i : Nat) (ix f : FX) : FS := fun e => match e.sl[i]? with
  | some (.own _) => (match ix e with
    | some (.d (.int k), e1) => (match f e1 with
      | some (r, e2) => (match fz r e2 with
        | some (d, e3) => (match e3.sl[i]? with
          | some (.own xs) => if xs.length < 16000000 ∧ 0 ≤ k ∧ k < 4611686018427387904 then some (.nx, e3.set i (.own (xs.take k.toNat ++ [d] ++ xs.drop k.toNat))) else none
          | _ => none)
        | none => none)
      | none => none)
    | _ => none)
  | _ => none
def xRevL (f : FX) : FL := fun e => match f e with
  | some (r, e1) => (match rd e1 r with
    | some (.list xs) => some (xs.reverse, e1)
    | _ => none)
  | none => none
theorem dpAll_rev {K : PySem.W.Frag} {H : Hp} : ∀ {vs : List V} {ds : List D}, DqAll K H vs ds → DqAll K H vs.reverse ds.reverse
  | _, _, .nil => .nil
  | _, _, .cons a b => by rw [List.reverse_cons, List.reverse_cons]; exact dpAll_app (dpAll_rev b) (.cons a .nil)
theorem dpAll_erase {K : PySem.W.Frag} {H : Hp} : ∀ {vs : List V} {ds : List D} (n : Nat), DqAll K H vs ds → DqAll K H (vs.eraseIdx n) (ds.eraseIdx n)
  | _, _, _, .nil => .nil
  | _, _, 0, .cons _ b => b
  | _, _, n + 1, .cons a b => .cons a (dpAll_erase n b)
section
variable {X : Cx} {a b : Expr} {f ix : FX} {pos cpos apos : Pos}
theorem ds_ist (i : Nat) {y : Str} {py p3 : Pos} (hx : DE X b ix) (h : DE X a f) (hi : X.N[i]? = some y := by rfl) (hv : Vis X.env.scope y := by first | exact Or.inl rfl | exact Or.inr (Or.inl rfl) | exact Or.inr (Or.inr rfl)) (hd : (y == ("__debug__" : Str)) = false := by decide)
    (hcd : (y == ("__classdict__" : Str)) = false := by decide) (hs : swapsWithSole [.Subscript (.Name y py) b p3] a pos.line X.env = pure false := by rfl) (hw : swappedStores [.Subscript (.Name y py) b p3] a X.env = pure none := by rfl)
    (h1 : (assignEach [.Subscript (.Name y py) b p3] X.env).map (·.2) = [assign (.Subscript (.Name y py) b p3) X.env] := by rfl)
    (ha : ∀ v, assign (.Subscript (.Name y py) b p3) X.env v = (do let ov ← holding [v] (eval (.Name y py) X.env); let iv ← holding [v, ov] (eval b X.env); standAt p3; holding [v, ov, iv] (setItem ov iv v); release [v, ov, iv] []) := by intro _; rfl) :
    DS X (.Assign [.Subscript (.Name y py) b p3] a pos) (gIst i ix f) := by
  refine ⟨fun c hc => ps_imp (ps_asg (h.pe c hc) (pg_sub (pe_var hi hv hd hcd) (hx.pe c hc) set_list ha) hs hw h1) fun Z σ H q => ?_⟩
  obtain ⟨e, R, o, e', he, q⟩ := q
  unfold gIst at he
  cases q1 : f e with
  | none => rw [q1] at he; cases he
  | some p =>
  obtain ⟨r, e1⟩ := p
  rw [q1] at he; dsimp only at he
  cases q2 : fz r e1 with
  | none => rw [q2] at he; cases he
  | some p =>
  obtain ⟨d, e2⟩ := p
  rw [q2] at he; dsimp only at he
  split at he
  · rename_i xs0 q3
    split at he
    · rename_i k e3 q4
      split at he
      · rename_i xs q5
        cases q6 : ixN xs.length k with
        | none => rw [q6] at he; cases he
        | some j =>
        rw [q6] at he
        cases he
        refine ⟨e, R, r, e1, q1, fun v H1 S hr => ?_⟩
        obtain ⟨S2, hdq⟩ := fz_ok S.rel hr q2
        obtain ⟨pa, vs0, g1, g2, g3, g4⟩ := S2.rel.slots i _ q3
        refine ⟨_, g1, e2, S2.rel, _, e3, q4, fun w H2 S3 hw2 => ?_⟩
        cases hw2 with
        | int =>
        obtain ⟨pb, vs, k1, k2, k3, k4⟩ := S3.rel.slots i _ q5
        rw [g1] at k1; cases k1
        refine ⟨pa, vs, k, j, rfl, rfl, k3, by rw [dpAll_len k4]; exact q6, q σ _ ?_⟩
        exact S3.rel.ownUpd q5 g1 (dpAll_set j k4 (dp_mono S3.same hdq))
      · cases he
    · cases he
  · cases he
theorem ds_popAt (i : Nat) {y : Str} {py : Pos} (h : DE X a ix) (hi : X.N[i]? = some y := by rfl) (hv : Vis X.env.scope y := by first | exact Or.inl rfl | exact Or.inr (Or.inl rfl) | exact Or.inr (Or.inr rfl)) (hd : (y == ("__debug__" : Str)) = false := by decide)
    (hcd : (y == ("__classdict__" : Str)) = false := by decide) (hbase : attributeBase (.Name y py) "pop" X.env (eval (.Name y py) X.env) = eval (.Name y py) X.env := by rfl)
    (hfew : ((backTo cpos (starEach [a] X.env)).all (fun x => !x.1) && (backToKw cpos (keywordEach [] X.env)).all (fun x => x.1.isSome)
      && decide (([a] : List Expr).length + ([] : List Keyword).length + (if ([] : List Keyword).isEmpty then 0 else 1) < 30)) = true := by rfl)
    (hline : (apos.endLine == cpos.line) = true := by rfl) (hs : starEach [a] X.env = (false, eval a X.env) :: starEach [] X.env := by rfl) (hplain : (backTo cpos (starEach [] X.env)).any (·.1) = false := by rfl)
    (hsw : swapsWith (.Call (.Attribute (.Name y py) "pop" apos) [a] [] cpos) none pos.line X.env = pure false := by rfl) : DS X (.Expr (.Call (.Attribute (.Name y py) "pop" apos) [a] [] cpos) pos) (gPopAt i ix) := by
  refine ⟨fun c hc => ps_imp (ps_expr (pe_bm (T := "list") (r := rPopAt) PySem.F.plainAttrs_list PySem.F.slot_list_pop PySem.F.type_list_pop mt_popAt (pe_var hi hv hd hcd) (pa_cons (h.pe c hc) pa_nil hs) hbase hfew hline hs hplain) hsw) fun Z σ H q => ?_⟩
  obtain ⟨e, R, o, e', he, q⟩ := q
  unfold gPopAt at he
  split at he
  · rename_i xs0 h0
    split at he
    · rename_i k e1 h1
      split at he
      · rename_i xs h3
        split at he
        · rename_i hk
          cases he
          obtain ⟨pa, vs0, g1, g2, g3, g4⟩ := R.slots i _ h0
          refine ⟨_, g1, .inl ⟨rfl, vs0, .inl (.of g3)⟩, e, R, _, e1, h1, fun v H1 S hv => ?_⟩
          cases hv with
          | int =>
          obtain ⟨pb, vs, k1, k2, k3, k4⟩ := S.rel.slots i _ h3
          rw [g1] at k1; cases k1
          have hlen := dpAll_len k4
          have hidx : k.toNat < vs.length := by omega
          have hsq : seqIndex? k vs.length = some k.toNat := seqIndex_of hk.1 (by omega)
          refine ⟨pa, vs, k, k.toNat, vs[k.toNat], rfl, rfl, k3, by omega, by omega, hsq, List.getElem?_eq_getElem hidx, q σ _ ?_⟩
          exact S.rel.ownUpd h3 g1 (dpAll_erase k.toNat k4)
        · cases he
      · cases he
    · cases he
  · cases he
theorem ds_ins (i : Nat) {y : Str} {py : Pos} (hx : DE X a ix) (h : DE X b f) (hi : X.N[i]? = some y := by rfl) (hv : Vis X.env.scope y := by first | exact Or.inl rfl | exact Or.inr (Or.inl rfl) | exact Or.inr (Or.inr rfl)) (hd : (y == ("__debug__" : Str)) = false := by decide)
    (hcd : (y == ("__classdict__" : Str)) = false := by decide) (hbase : attributeBase (.Name y py) "insert" X.env (eval (.Name y py) X.env) = eval (.Name y py) X.env := by rfl)
    (hfew : ((backTo cpos (starEach [a, b] X.env)).all (fun x => !x.1) && (backToKw cpos (keywordEach [] X.env)).all (fun x => x.1.isSome)
      && decide (([a, b] : List Expr).length + ([] : List Keyword).length + (if ([] : List Keyword).isEmpty then 0 else 1) < 30)) = true := by rfl)
    (hline : (apos.endLine == cpos.line) = true := by rfl) (hs : starEach [a, b] X.env = (false, eval a X.env) :: starEach [b] X.env := by rfl) (hs2 : starEach [b] X.env = (false, eval b X.env) :: starEach [] X.env := by rfl) (hplain : (backTo cpos (starEach [b] X.env)).any (·.1) = false := by rfl)
    (hsw : swapsWith (.Call (.Attribute (.Name y py) "insert" apos) [a, b] [] cpos) none pos.line X.env = pure false := by rfl) : DS X (.Expr (.Call (.Attribute (.Name y py) "insert" apos) [a, b] [] cpos) pos) (gIns i ix f) := by
  refine ⟨fun c hc => ps_imp (ps_expr (pe_bm (T := "list") PySem.F.plainAttrs_list PySem.F.slot_list_insert PySem.F.type_list_insert mt_insert (pe_var hi hv hd hcd) (pa_cons (hx.pe c hc) (pa_cons (h.pe c hc) pa_nil hs2) hs) hbase hfew hline hs hplain) hsw) fun Z σ H q => ?_⟩
  obtain ⟨e, R, o, e', he, q⟩ := q
  unfold gIns at he
  split at he
  · rename_i xs0 h0
    split at he
    · rename_i k e1 h1
      cases h2 : f e1 with
      | none => rw [h2] at he; cases he
      | some p =>
      obtain ⟨r, e2⟩ := p
      rw [h2] at he; dsimp only at he
      cases h3 : fz r e2 with
      | none => rw [h3] at he; cases he
      | some p =>
      obtain ⟨d, e3⟩ := p
      rw [h3] at he; dsimp only at he
      split at he
      · rename_i xs h4
        split at he
        · rename_i hk
          cases he
          obtain ⟨pa, vs0, g1, g2, g3, g4⟩ := R.slots i _ h0
          refine ⟨_, g1, .inl ⟨rfl, vs0, .inl (.of g3)⟩, e, R, _, e1, h1, fun v H1 S hv => ?_⟩
          cases hv with
          | int =>
          refine ⟨e1, S.rel, r, e2, h2, fun w H2 S2 hw => ?_⟩
          obtain ⟨S3, hd3⟩ := fz_ok S2.rel hw h3
          obtain ⟨pb, vs, k1, k2, k3, k4⟩ := S3.rel.slots i _ h4
          rw [g1] at k1; cases k1
          refine ⟨pa, vs, k, w, rfl, rfl, k3, by rw [dpAll_len k4, sizeLine_eq]; omega, hk.2.1, by omega, q σ _ ?_⟩
          exact S3.rel.ownUpd h4 g1 (dpAll_app (dpAll_app (dpAll_take _ k4) (.cons hd3 .nil)) (dpAll_drop _ k4))
        · cases he
      · cases he
    · cases he
  · cases he
theorem dl_rev {k : Nat} {p1 p2 p3 : Pos} (h : DE X a f) : DL X (.Subscript a (.Slice none none (some (.UnaryOp .USub (.Constant (.int 1) k p1) p2)) p3) pos) (xRevL f) := by
  refine ⟨fun c hc => pe_imp (pe_revL (h.pe c hc)) fun σ H Q q => ?_⟩
  obtain ⟨e, R, xs, e', he, q⟩ := q
  unfold xRevL at he
  cases h1 : f e with
  | none => rw [h1] at he; cases he
  | some p =>
  obtain ⟨r, e1⟩ := p
  rw [h1] at he; dsimp only at he
  split at he
  · rename_i ys h2
    cases he
    refine ⟨e, R, r, _, h1, fun v H1 S hr => ?_⟩
    obtain ⟨l, vs, rfl, g1, g2⟩ := (hr.rb S.rel h2).list
    refine ⟨l, vs, rfl, .inl (.of g1), fun p0 hp0 => ?_⟩
    have sm : Same H1 (upd H1 p0 (.lst vs.reverse)) := same_upd hp0
    have Rp := S.rel.plus (vs := vs.reverse) hp0 upd_same sm
    refine q p0 _ _ (S.rel.fresh hp0) upd_same Rp S.shr (fun a o n z => sm a o (S.fr a o n z)) (dpAll_mono (hid_same (fun a z => ?_) (fr_same sm)) (dpAll_rev g2))
    rcases (OO.plus a).mp z with z | z
    · exact .inl z
    · subst z; exact .inr hp0
  · cases he
end
end DD

namespace DD
open PySem PySem.Spec PyProof.Rows L2

/-! ### *a, b = a tuple; a, *b = a list -/
theorem shiftS {prog : Program} {w : World} {A : Around} {I : Addr} {fp wr : List Addr} {G : Array GenState → Array GenState → Prop} {n : Nat} {P : Nat → Value → Prop} {St : Nat → Shared → Prop}
    (W : WalksS prog w A I fp wr G n P St) (k : Nat) (hk : k ≤ n) : WalksS prog w A I fp wr G (n - k) (fun i => P (i + k)) (fun i => St (i + k)) where
  sub := W.sub
  grefl := W.grefl
  gtrans := W.gtrans
  frame := fun i s h' tk => W.frame (i + k) s h' tk
  item := fun i s Q E hi st hQ => W.item (i + k) s Q E (by omega) st fun v s' hp st' m => hQ v s' hp (by rw [show i + 1 + k = i + k + 1 by omega]; exact st') m
  done := fun s Q E st hQ => W.done s Q E (by rw [Nat.sub_add_cancel hk] at st; exact st) hQ
  self := fun i s Q E st hQ => W.self (i + k) s Q E st hQ
theorem items_eq {P : Nat → Value → Prop} {acc : Array Value} {n : Nat} {vs : List Value} (hl : vs.length = n) (hP : ∀ i v, P i v → vs[i]? = some v) (h : ItemsOf P acc n) : acc.toList = vs := by
  refine List.ext_getElem? fun i => ?_
  rw [Array.getElem?_toList]
  cases h1 : acc[i]? with
  | some v => exact (hP i v (h.2 i v h1)).symm
  | none =>
    have := Array.getElem?_eq_none_iff.mp h1
    exact (List.getElem?_eq_none (by have := h.1; omega)).symm
section
variable {prog : Program} {w : World} {A : Around} {E : Value → Shared → Prop} {s : Shared}
theorem unp_starL {t : Addr} {vs : List Value} {x : Value} {Q : List Value → Shared → Prop} (hh : A.handled = none) (ht : IsTup s.heap t (vs ++ [x]).toArray) (hl : (vs ++ [x]).length ≤ sizeLine)
    (hQ : ∀ (h' : Heap) (tk : Nat), (∀ b o, s.heap.get? b = some o → h'.get? b = some o) → Q [.ref h'.objs.size, x] { s with heap := h'.push { cls := .type "list", data := .seq vs.toArray }, toks := tk }) :
    wpAny (model prog w) A (unpackItems (.ref t) 2 (some 0)) Q E s := by
  have hlt : t ≠ s.heap.objs.size := by obtain ⟨o, ho, _⟩ := ht; exact Nat.ne_of_lt (Heap.lt_size ho)
  unfold unpackItems
  refine wpAny_bind ?_
  · unfold notIterableAtAll
    refine wpAny_bind (wpAny_specialOf ht.typeIs slot_tuple_iter.lookup ?_)
    refine wpAny_pure ?_
    simp only [Bool.false_eq_true, if_false]
    refine wpAny_bind (wpAny_holding (iter_tuple ht ?_))
    show wpAny _ _ (holding _ (draw _ 0) >>= _) _ _ _
    refine wpAny_bind (wpAny_holding ?_)
    show wpAny _ _ (pure []) _ _ _
    refine wpAny_pure ?_
    rw [if_neg (by simp)]
    have hz : s.heap.objs.size < (s.heap.push { cls := .type "tuple_iterator", data := .fields #[.ref t, .int 0 0] }).objs.size := by rw [Heap.size_push]; omega
    have htl : t < (s.heap.push { cls := .type "tuple_iterator", data := .fields #[.ref t, .int 0 0] }).objs.size := by
      obtain ⟨o, ho, _⟩ := ht
      exact Nat.lt_trans (Heap.lt_size ho) hz
    have W := (Walks.tuple (prog := prog) (w := w) (A := A.in1) (by simp [hh]) s.heap.objs.size t hlt (vs ++ [x]).toArray).toS
    refine wpAny_bind (wpAny_holding (wpAny_collect_iter (T := "tuple_iterator") (n := (vs ++ [x]).toArray.size) (by simp) W (fun i s' st => ?_) ⟨⟨_, Heap.get?_push_size _ rfl, rfl, rfl⟩, ht.push _⟩ (fun b hb => ?_) (by simp) (fun s' acc hm hi => ?_) (by simpa using hl)))
    · obtain ⟨⟨o, ho, hc, _⟩, _⟩ := st
      exact ⟨o, ho, hc⟩
    · simp only [List.mem_cons, List.not_mem_nil, or_false] at hb
      rcases hb with rfl | rfl
      · exact hz
      · exact htl
    · have ea : acc.toList = vs ++ [x] := items_eq (by simp) (fun i v h => by simpa using h) hi
      rw [ea]
      obtain ⟨h', g2, d', tk', os'⟩ := s'
      have eg : g2 = s.gens := hm.gens
      have ed : d' = s.drawn := hm.drawn
      have eo : os' = s.os := hm.os
      subst eg; subst ed; subst eo
      rw [if_neg (by simp)]
      have e1 : (vs ++ [x]).length - (2 - 1 - 0) = vs.length := by simp
      simp only [List.nil_append]
      rw [e1, List.take_left, List.drop_left]
      refine wpAny_bind (wpAny_newList ?_ (by simp at hl; omega))
      refine wpAny_pure ?_
      refine hQ h' tk' fun b o e => hm.heap b o (fun hb => ?_) (Heap.get?_push_of_some _ e)
      rw [List.mem_singleton.mp hb] at e
      exact absurd (Heap.lt_size e) (Nat.lt_irrefl _)
theorem unp_starR {l : Addr} {vs : List Value} {x : Value} {Q : List Value → Shared → Prop} (hh : A.handled = none) (ht : s.heap.IsList l (x :: vs).toArray) (hl : vs.length ≤ sizeLine)
    (hQ : ∀ (h' : Heap) (tk : Nat), (∀ b o, s.heap.get? b = some o → h'.get? b = some o) → Q [x, .ref h'.objs.size] { s with heap := h'.push { cls := .type "list", data := .seq vs.toArray }, toks := tk }) :
    wpAny (model prog w) A (unpackItems (.ref l) 2 (some 1)) Q E s := by
  have hlt : l ≠ s.heap.objs.size := by obtain ⟨o, ho, _⟩ := ht; exact Nat.ne_of_lt (Heap.lt_size ho)
  unfold unpackItems
  refine wpAny_bind ?_
  · unfold notIterableAtAll
    refine wpAny_bind (wpAny_specialOf ht.typeIs slot_list_iter.lookup ?_)
    refine wpAny_pure ?_
    simp only [Bool.false_eq_true, if_false]
    refine wpAny_bind (wpAny_holding (wpAny_pyIter_list ht ?_))
    have hz : s.heap.objs.size < (s.heap.push { cls := .type "list_iterator", data := .fields #[.ref l, .int 0 0] }).objs.size := by rw [Heap.size_push]; omega
    have htl : l < s.heap.objs.size := by
      obtain ⟨o, ho, _⟩ := ht
      exact Heap.lt_size ho
    refine wpAny_bind (wpAny_holding (PySem.W.kun_draw hlt 1 0 _ _ ⟨_, Heap.get?_push_size _ rfl, rfl, rfl⟩ (ht.push _) (by simp) fun h₁ hit₁ hs₁ => ?_))
    have e0 : List.take 1 (List.drop 0 (x :: vs).toArray.toList) = [x] := by simp
    rw [e0, if_neg (by simp)]
    have W := shiftS ((Walks.list (prog := prog) (w := w) (A := A.in1) (by simp [hh]) s.heap.objs.size l hlt (x :: vs).toArray).toS) 1 (by simp)
    have hl1 : h₁.IsList l (x :: vs).toArray := (ht.push _).extBut hs₁.extBut hlt
    have hI : s.heap.objs.size < h₁.objs.size := by
      obtain ⟨o, ho, _⟩ := hit₁
      exact Heap.lt_size ho
    refine wpAny_bind (wpAny_holding (wpAny_collect_iter (T := "list_iterator") (n := (x :: vs).toArray.size - 1) (by simp) W (fun i s' st => ?_) ⟨hit₁, hl1⟩ (fun b hb => ?_) (by simp) (fun s' acc hm hi => ?_) (by simpa using hl)))
    · obtain ⟨⟨o, ho, hc, _⟩, _⟩ := st
      exact ⟨o, ho, hc⟩
    · simp only [List.mem_cons, List.not_mem_nil, or_false] at hb
      rcases hb with rfl | rfl
      · exact hI
      · exact Nat.lt_trans htl hI
    · have ea : acc.toList = vs := items_eq (by simp) (fun i v h => by simpa using h) hi
      rw [ea]
      obtain ⟨h', g2, d', tk', os'⟩ := s'
      have eg : g2 = s.gens := hm.gens
      have ed : d' = s.drawn := hm.drawn
      have eo : os' = s.os := hm.os
      subst eg; subst ed; subst eo
      rw [if_neg (by simp)]
      have e1 : vs.length - (2 - 1 - 1) = vs.length := by simp
      rw [e1, List.take_length, List.drop_length]
      refine wpAny_bind (wpAny_newList ?_ hl)
      refine wpAny_pure ?_
      refine hQ h' tk' fun b o e => hm.heap b o (fun hb => ?_) (hs₁.extBut b o (fun hb => ?_) (Heap.get?_push_of_some _ e))
      · rw [List.mem_singleton.mp hb] at e
        exact absurd (Heap.lt_size e) (Nat.lt_irrefl _)
      · rw [hb] at e
        exact absurd (Heap.lt_size e) (Nat.lt_irrefl _)
end
/-- the first of all, then the last -/
def gStarL (K : PySem.W.Frag) (t : TGs) : TG := fun v σ H Q => ∃ a xs x, v = .ref a ∧ SqT K H a (xs ++ [x]) ∧ ∀ p, H p = none → t [.ref p, x] σ (upd H p (.lst xs)) Q
def gStarR (K : PySem.W.Frag) (t : TGs) : TG := fun v σ H Q => ∃ a xs x, v = .ref a ∧ SqL K H a (x :: xs) ∧ ∀ p, H p = none → t [x, .ref p] σ (upd H p (.lst xs)) Q
section
variable {X : Cx} {pos : Pos}
theorem vals_snoc : ∀ {xs : List V} {x : V} {us : List Value}, Vals (xs ++ [x]) us → ∃ vs v, us = vs ++ [v] ∧ Vals xs vs ∧ RelV x v
  | [], x, _, .cons r .nil => ⟨[], _, rfl, .nil, r⟩
  | y :: xs, x, _, .cons r t => by
    obtain ⟨vs, v, rfl, h1, h2⟩ := vals_snoc t
    exact ⟨_ :: vs, v, rfl, .cons r h1, h2⟩
theorem laid_lst {pins : List (Addr × Obj)} {σ : L2.St} {H : Hp} {s : Shared} {h' : Heap} {tk : Nat} {xs : List V} {vs : List Value} (I : Inv X pins σ H s) (hk : ∀ b o, s.heap.get? b = some o → h'.get? b = some o) (r : Vals xs vs) (hz : xs.length ≤ sizeLine) :
    Inv X pins σ (upd H h'.objs.size (.lst xs)) { s with heap := h'.push { cls := .type "list", data := .seq vs.toArray }, toks := tk } ∧ H h'.objs.size = none := by
  have I1 : Inv X pins σ H { s with heap := h', toks := tk } := I.kept hk
  exact ⟨I1.laid (t' := tk) (fun b u q => Heap.get?_push_of_some _ q) (Nat.le_refl _) ⟨hz, vs, 0, r, Heap.get?_push_size _ rfl⟩, I1.hok.fresh (Nat.le_refl _)⟩
theorem pg_starL {e1 e2 : Expr} {p1 : Pos} {k : Nat} {t : TGs} (hc : X.calm = true) (h : PGs X [e1, e2] t)
    (hn : (assignEach [.Starred e1 p1, e2] X.env).length = 2 := by rfl) (hst : (assignEach [.Starred e1 p1, e2] X.env).findIdx? (·.1) = some 0 := by rfl)
    (hm : (assignEach [.Starred e1 p1, e2] X.env).map (·.2) = (assignEach [e1, e2] X.env).map (·.2) := by rfl) : PG X (.Tuple [.Starred e1 p1, e2] k pos) (gStarL X.K t) := by
  refine ⟨fun pins s σ H v u Q I r hw => ?_⟩
  obtain ⟨a, xs, x, rfl, hq, hw⟩ := hw
  cases r
  obtain ⟨its, rv, pl, hz⟩ := I.tuple hq
  obtain ⟨vs, v, rfl, r1, r2⟩ := vals_snoc rv
  have hlen := rv.length
  rw [PyProof.Rows.assign_Tuple]
  refine wpAny_bind (wpAny_standAt ?_)
  unfold unpack
  rw [hn, hst]
  refine wpAny_bind (wpAny_holding (unp_starL (I.ok.hd hc) pl (by rw [← hlen]; exact hz) fun h' tk hk => ?_))
  obtain ⟨I2, hf⟩ := laid_lst (tk := tk) I hk r1 (by rw [List.length_append] at hz; omega)
  rw [hm]
  exact h.run pins _ σ _ _ _ Q I2 (.cons (show RelV (.ref _) (.ref _) from rfl) (.cons r2 .nil)) (hw _ hf)
theorem pg_starR {e1 e2 : Expr} {p1 : Pos} {k : Nat} {t : TGs} (hc : X.calm = true) (h : PGs X [e1, e2] t)
    (hn : (assignEach [e1, .Starred e2 p1] X.env).length = 2 := by rfl) (hst : (assignEach [e1, .Starred e2 p1] X.env).findIdx? (·.1) = some 1 := by rfl)
    (hm : (assignEach [e1, .Starred e2 p1] X.env).map (·.2) = (assignEach [e1, e2] X.env).map (·.2) := by rfl) : PG X (.Tuple [e1, .Starred e2 p1] k pos) (gStarR X.K t) := by
  refine ⟨fun pins s σ H v u Q I r hw => ?_⟩
  obtain ⟨a, xs, x, rfl, hq, hw⟩ := hw
  cases r
  obtain ⟨its, rv, pl, hz⟩ := I.list hq
  cases rv with
  | cons r2 r1 =>
  rename_i v vs
  have hl' : s.heap.IsList a (v :: vs).toArray := by
    obtain ⟨o, m, e, c, d, q⟩ := pl
    exact ⟨o, e, c, m, q⟩
  have hlen := r1.length
  rw [PyProof.Rows.assign_Tuple]
  refine wpAny_bind (wpAny_standAt ?_)
  unfold unpack
  rw [hn, hst]
  refine wpAny_bind (wpAny_holding (unp_starR (I.ok.hd hc) hl' (by rw [← hlen]; rw [List.length_cons] at hz; omega) fun h' tk hk => ?_))
  obtain ⟨I2, hf⟩ := laid_lst (tk := tk) I hk r1 (by rw [List.length_cons] at hz; omega)
  rw [hm]
  exact h.run pins _ σ _ _ _ Q I2 (.cons r2 (.cons (show RelV (.ref _) (.ref _) from rfl) .nil)) (hw _ hf)
end
end DD

namespace DD
open PySem PySem.Spec PyProof.Rows L2

/-! ### *a, b = x; a, *b = x, as data -/
theorem dpAll_snoc {K : PySem.W.Frag} {H : Hp} : ∀ {vs : List V} {ds : List D} {y : D}, DqAll K H vs ds → ds.getLast? = some y → ∃ ws v, vs = ws ++ [v] ∧ DqAll K H ws ds.dropLast ∧ Dq K H v y
  | _, [], _, _, h => by cases h
  | _, [d], y, .cons a .nil, h => by cases h; exact ⟨[], _, rfl, .nil, a⟩
  | _, d :: d2 :: ds, y, .cons a b, h => by
    obtain ⟨ws, v, rfl, h1, h2⟩ := dpAll_snoc b (y := y) (by rw [List.getLast?_cons_cons] at h; exact h)
    exact ⟨_ :: ws, v, rfl, .cons a h1, h2⟩
def gStF (i j : Nat) (f : FX) : FS := fun e => match f e with
  | some (r, e1) => (match fz r e1 with
    | some (.tuple ds, e2) => (match ds.getLast? with
      | some y => some (.nx, (e2.set i (.d (.list ds.dropLast))).set j (.d y))
      | none => none)
    | _ => none)
  | none => none
def gStR (i j : Nat) (f : FX) : FS := fun e => match f e with
  | some (r, e1) => (match fz r e1 with
    | some (.list (d :: ds), e2) => some (.nx, (e2.set i (.d d)).set j (.d (.list ds)))
    | _ => none)
  | none => none
section
variable {X : Cx} {pos : Pos} {a : Expr} {f : FX}
theorem Rel.list2 {c : Ct} {σ : L2.St} {H : Hp} {e : ES} {p : Addr} {ws : List V} {ds : List D} (R : Rel c σ H e) (hp : H p = none) (h : DqAll c.K (hid (OO c σ e.sl) H) ws ds) :
    Rel c σ (upd H p (.lst ws)) e ∧ Dq c.K (hid (OO c σ e.sl) (upd H p (.lst ws))) (.ref p) (.list ds) := by
  have sm : Same H (upd H p (.lst ws)) := same_upd hp
  have hn : ¬ OO c σ e.sl p := fun q => R.hidden p q hp
  exact ⟨R.grow sm, .lst (hid_of hn upd_same) (dpAll_mono (hid_same0 sm) h)⟩
theorem ds_starF (i j : Nat) {y z : Str} {py pz p1 pt : Pos} {kt : Nat} (hN : X.N.Nodup) (h : DE X a f) (hi : X.N[i]? = some y := by rfl) (hj : X.N[j]? = some z := by rfl)
    (hy : X.env.scope.names.lookup y = some .local := by rfl) (hz : X.env.scope.names.lookup z = some .local := by rfl) (hc : X.calm = true := by rfl)
    (hs : swapsWithSole [.Tuple [.Starred (.Name y py) p1, .Name z pz] kt pt] a pos.line X.env = pure false := by rfl) (hw : swappedStores [.Tuple [.Starred (.Name y py) p1, .Name z pz] kt pt] a X.env = pure none := by rfl) :
    DS X (.Assign [.Tuple [.Starred (.Name y py) p1, .Name z pz] kt pt] a pos) (gStF i j f) := by
  refine ⟨fun c hk => ps_imp (ps_asg (h.pe c hk) (pg_starL hc (pgs_cons (pg_name hN hi (.inl hy) (.inr hy)) (pgs_cons (pg_name hN hj (.inl hz) (.inr hz)) pgs_nil))) hs hw) fun Z σ H q => ?_⟩
  obtain ⟨e, R, o, e', he, q⟩ := q
  unfold gStF at he
  cases h1 : f e with
  | none => rw [h1] at he; cases he
  | some p =>
  obtain ⟨r, e1⟩ := p
  rw [h1] at he; dsimp only at he
  split at he
  · rename_i ds e2 h2
    split at he
    · rename_i y0 h3
      cases he
      refine ⟨e, R, r, e1, h1, fun v H1 S hr => ?_⟩
      obtain ⟨S2, hd⟩ := fz_ok S.rel hr h2
      cases hd with
      | tup g1 g2 =>
      obtain ⟨ws, x, rfl, g3, g4⟩ := dpAll_snoc g2 h3
      refine ⟨_, ws, x, rfl, hk ▸ sqT_mono hid_le g1, fun p hp => ⟨_, _, rfl, ?_⟩⟩
      obtain ⟨R3, hl⟩ := S2.rel.list2 hp g3
      have R4 := R3.set (i := i) hl
      have sm := same_upd (o := .lst ws) hp
      have hx : Dq c.K (hid (OO c (σ.set i (some (.ref p))) (e2.set i (.d (.list ds.dropLast))).sl) (upd H1 p (.lst ws))) x y0 := dp_mono Rel.set_le (dp_mono (hid_same0 sm) g4)
      exact ⟨_, _, rfl, rfl, q _ _ (R4.set (i := j) hx)⟩
    · cases he
  · cases he
theorem ds_starR (i j : Nat) {y z : Str} {py pz p1 pt : Pos} {kt : Nat} (hN : X.N.Nodup) (h : DE X a f) (hi : X.N[i]? = some y := by rfl) (hj : X.N[j]? = some z := by rfl)
    (hy : X.env.scope.names.lookup y = some .local := by rfl) (hz : X.env.scope.names.lookup z = some .local := by rfl) (hc : X.calm = true := by rfl)
    (hs : swapsWithSole [.Tuple [.Name y py, .Starred (.Name z pz) p1] kt pt] a pos.line X.env = pure false := by rfl) (hw : swappedStores [.Tuple [.Name y py, .Starred (.Name z pz) p1] kt pt] a X.env = pure none := by rfl) :
    DS X (.Assign [.Tuple [.Name y py, .Starred (.Name z pz) p1] kt pt] a pos) (gStR i j f) := by
  refine ⟨fun c hk => ps_imp (ps_asg (h.pe c hk) (pg_starR hc (pgs_cons (pg_name hN hi (.inl hy) (.inr hy)) (pgs_cons (pg_name hN hj (.inl hz) (.inr hz)) pgs_nil))) hs hw) fun Z σ H q => ?_⟩
  obtain ⟨e, R, o, e', he, q⟩ := q
  unfold gStR at he
  cases h1 : f e with
  | none => rw [h1] at he; cases he
  | some p =>
  obtain ⟨r, e1⟩ := p
  rw [h1] at he; dsimp only at he
  split at he
  · rename_i d ds e2 h2
    cases he
    refine ⟨e, R, r, e1, h1, fun v H1 S hr => ?_⟩
    obtain ⟨S2, hd⟩ := fz_ok S.rel hr h2
    cases hd with
    | lst g1 g2 =>
    cases g2 with
    | cons g4 g3 =>
    rename_i x ws
    refine ⟨_, ws, x, rfl, .inl (.of (hid_le _ _ g1)), fun p hp => ⟨_, _, rfl, ?_⟩⟩
    obtain ⟨R3, hl⟩ := S2.rel.list2 hp g3
    have sm := same_upd (o := .lst ws) hp
    have hx : Dq c.K (hid (OO c σ e2.sl) (upd H1 p (.lst ws))) x d := dp_mono (hid_same0 sm) g4
    have R4 := R3.set (i := i) hx
    exact ⟨_, _, rfl, rfl, q _ _ (R4.set (i := j) (dp_mono Rel.set_le hl))⟩
  · cases he
end

/-! ### texts -/
def gInS : D → D → Option D
  | .str a, .str z => match a.cps.toList with
    | [c] => some (.bool (decide (c ∈ z.cps.toList)))
    | _ => none
  | _, _ => none
theorem one_sign {a : Str} {c : Nat} (h : a.cps.toList = [c]) : a = ⟨#[c]⟩ := by
  obtain ⟨l⟩ := a
  have : l = #[c] := by
    apply Array.toList_inj.mp
    exact h
  rw [this]
theorem opd_inS {K : PySem.W.Frag} : OpD K (fun x y H Q => ∃ (c : Nat) (z : Str), x = .str ⟨#[c]⟩ ∧ y = .str z ∧ Q (.bl (decide (c ∈ z.cps.toList))) H) gInS := by
  intro O H x y dx dy d Q ho hx hy hg q
  cases dx <;> cases dy <;> simp only [gInS, reduceCtorEq] at hg
  split at hg
  · rename_i c hc
    cases hg
    exact ⟨c, _, by rw [hx.str, one_sign hc], hy.str, q _ H (Same.refl H) (.bl _)⟩
  · cases hg
def gStrI : List D → Option D
  | [.int i] => if i.natAbs.log2 < 1920 then some (.str (toString i)) else none
  | _ => none
theorem calld_strI {K : PySem.W.Frag} : CallD K (fun xs H Q => ∃ i : Int, xs = [.int i] ∧ i.natAbs.log2 < 1920 ∧ Q (.str (toString i)) H) gStrI := by
  intro O H xs ds d Q ho h hg q
  unfold gStrI at hg
  split at hg
  · split at hg
    · rename_i hz
      cases hg
      obtain ⟨v, rfl, hv⟩ := rb1 h
      exact ⟨_, by rw [hv.int], hz, q _ H (Same.refl H) (.str _)⟩
    · cases hg
  · cases hg
def gIntS : List D → Option D
  | [.str a] => if a.length ≤ 640 then (PySem.intText? a).map .int else none
  | _ => none
theorem calld_intS {K : PySem.W.Frag} : CallD K (fun xs H Q => ∃ a n, xs = [.str a] ∧ PySem.intText? a = some n ∧ a.length ≤ 640 ∧ Q (.int n) H) gIntS := by
  intro O H xs ds d Q ho h hg q
  unfold gIntS at hg
  split at hg
  · split at hg
    · rename_i hz
      obtain ⟨n, h1, rfl⟩ := Option.map_eq_some_iff.mp hg
      obtain ⟨v, rfl, hv⟩ := rb1 h
      exact ⟨_, n, by rw [hv.str], h1, hz, q _ H (Same.refl H) (.int _)⟩
    · cases hg
  · cases hg
/-- the texts of a list -/
def strsD : List D → Option (List Str)
  | [] => some []
  | .str z :: r => (strsD r).map (z :: ·)
  | _ => none
theorem strsD_inv : ∀ {ds : List D} {ys : List Str}, strsD ds = some ys → ds = ys.map PyData.str
  | [], _, h => by cases h; rfl
  | .str z :: r, _, h => by
    obtain ⟨ys, h1, rfl⟩ := Option.map_eq_some_iff.mp (show (strsD r).map (z :: ·) = _ from h)
    rw [strsD_inv h1]; rfl
  | .none :: _, _, h => by cases h
  | .bool _ :: _, _, h => by cases h
  | .int _ :: _, _, h => by cases h
  | .list _ :: _, _, h => by cases h
  | .tuple _ :: _, _, h => by cases h
  | .dict _ :: _, _, h => by cases h
theorem dpAll_strs : ∀ {K : PySem.W.Frag} {H : Hp} {vs : List V} {ys : List Str}, DqAll K H vs (ys.map PyData.str) → vs = ys.map V.str
  | _, _, _, [], .nil => rfl
  | _, _, _, y :: ys, .cons (.str _) b => by rw [dpAll_strs b]; rfl
theorem dpAll_ofStrs : ∀ {K : PySem.W.Frag} {H : Hp} (ys : List Str), DqAll K H (ys.map V.str) (ys.map PyData.str)
  | _, _, [] => .nil
  | _, _, y :: ys => .cons (.str y) (dpAll_ofStrs ys)
/-- 'sep'.join(xs) -/
def xJoin (z : Str) (f : FX) : FX := fun e => match f e with
  | some (r, e1) => (match rd e1 r with
    | some (.list ds) => (match strsD ds with
      | some ys => if (ys.map (·.length)).sum + ys.length * z.length ≤ 16777216 then some (.d (.str (Txt.join z ys)), e1) else none
      | none => none)
    | _ => none)
  | none => none
def gSplit (z : Str) : List D → Option (List D)
  | [.str a] => if a.length ≤ 16000000 then some ((Txt.split a z).map PyData.str) else none
  | _ => none
def xSplit (z : Str) (f : FX) : FL := fun e => match f e with
  | some (r, e1) => (match rd e1 r with
    | some (.str a) => if a.length ≤ 16000000 then some ((Txt.split a z).map PyData.str, e1) else none
    | _ => none)
  | none => none
/-- f'{a}w{b}' -/
def fmtD : D → Option Str
  | .str y => if y.length ≤ 16000000 then some y else none
  | .int i => if i.natAbs.log2 < 1920 then some (toString i) else none
  | _ => none
def xF3 (w : Str) (f g : FX) : FX := fun e => match f e with
  | some (r1, e1) => (match rd e1 r1 with
    | some d1 => (match fmtD d1 with
      | some y1 => (match g e1 with
        | some (r2, e2) => (match rd e2 r2 with
          | some d2 => (match fmtD d2 with
            | some y2 => if y1.length + w.length + y2.length ≤ 16000000 then some (.d (.str (Str.empty ++ y1 ++ w ++ y2)), e2) else none
            | none => none)
          | none => none)
        | none => none)
      | none => none)
    | none => none)
  | none => none
section
variable {X : Cx} {pos : Pos} {a b x : Expr} {f g : FX}
theorem de_join {z : Str} {k : Nat} {c0 apos : Pos} (h : DE X a f) (hs : starEach [a] X.env = [(false, eval a X.env)] := by rfl) (hbase : attributeBase (.Constant (.str z) k c0) "join" X.env (eval (.Constant (.str z) k c0) X.env) = eval (.Constant (.str z) k c0) X.env := by rfl) (hline : (apos.endLine == pos.line) = true := by rfl) :
    DE X (.Call (.Attribute (.Constant (.str z) k c0) "join" apos) [a] [] pos) (xJoin z f) := by
  refine ⟨fun c hc => pe_imp (pe_join pe_str (h.pe c hc) hs hbase hline) fun σ H Q q => ?_⟩
  obtain ⟨e, R, r, e', he, q⟩ := q
  unfold xJoin at he
  cases h1 : f e with
  | none => rw [h1] at he; cases he
  | some p =>
  obtain ⟨r1, e1⟩ := p
  rw [h1] at he; dsimp only at he
  split at he
  · rename_i ds h2
    split at he
    · rename_i ys h3
      split at he
      · rename_i hz
        cases he
        refine ⟨⟨z, rfl⟩, e, R, r1, _, h1, fun v H1 S hv => ?_⟩
        obtain ⟨l, vs, rfl, g1, g2⟩ := (hv.rb S.rel h2).list
        rw [strsD_inv h3] at g2
        rw [dpAll_strs g2] at g1
        exact ⟨z, l, ys, rfl, rfl, .inl (.inl (.of g1)), hz, q _ _ S (.str _)⟩
      · cases he
    · cases he
  · cases he
theorem dl_split {z : Str} {k : Nat} {c0 apos : Pos} (h : DE X a f) (hz0 : (z.length == 0) = false := by decide) (hs : starEach [.Constant (.str z) k c0] X.env = [(false, eval (.Constant (.str z) k c0) X.env)] := by rfl) (hbase : attributeBase a "split" X.env (eval a X.env) = eval a X.env := by rfl) (hline : (apos.endLine == pos.line) = true := by rfl) :
    DL X (.Call (.Attribute a "split" apos) [.Constant (.str z) k c0] [] pos) (xSplit z f) := by
  refine ⟨fun c hc => pe_imp (pe_split (h.pe c hc) pe_str hs hbase hline) fun σ H Q q => ?_⟩
  obtain ⟨e, R, r, e', he, q⟩ := q
  unfold xSplit at he
  cases h1 : f e with
  | none => rw [h1] at he; cases he
  | some p =>
  obtain ⟨r1, e1⟩ := p
  rw [h1] at he; dsimp only at he
  split at he
  · rename_i y h2
    split at he
    · rename_i hl
      cases he
      refine ⟨e, R, r1, _, h1, fun v H1 S hv => ?_⟩
      have ev := (hv.rb S.rel h2).str
      subst ev
      refine ⟨⟨y, rfl⟩, y, z, rfl, rfl, hz0, by rw [sizeLine_eq]; omega, fun p0 hp0 => ?_⟩
      have sm : Same H1 (upd H1 p0 (.lst ((Txt.split y z).map V.str))) := same_upd hp0
      have Rp := S.rel.plus (vs := (Txt.split y z).map V.str) hp0 upd_same sm
      exact q p0 _ _ (S.rel.fresh hp0) upd_same Rp S.shr (fun a o n z => sm a o (S.fr a o n z)) (dpAll_ofStrs _)
    · cases he
  · cases he
theorem fmt_ok {K : PySem.W.Frag} {O : Addr → Prop} {H : Hp} {v : V} {d : D} {y : Str} (h : Rb K O H v d) (hf : fmtD d = some y) {Q : VK} (q : Q (.str y) H) :
    (∃ y : Str, v = .str y ∧ y.length ≤ sizeLine ∧ Q (.str y) H) ∨ ∃ i : Int, v = .int i ∧ i.natAbs.log2 < 1920 ∧ Q (.str (toString i)) H := by
  unfold fmtD at hf
  split at hf
  · split at hf
    · rename_i hl
      cases hf
      exact .inl ⟨y, h.str, by rw [sizeLine_eq]; omega, q⟩
    · cases hf
  · split at hf
    · rename_i hl
      cases hf
      exact .inr ⟨_, h.int, hl, q⟩
    · cases hf
  · cases hf
theorem de_f3 {w : Str} {k : Nat} {c0 p1 p2 : Pos} (ha : DE X a f) (hb : DE X b g) : DE X (.JoinedStr [.FormattedValue a (-1) none p1, .Constant (.str w) k c0, .FormattedValue b (-1) none p2] pos) (xF3 w f g) := by
  refine ⟨fun c hc => pe_imp (pe_joined (.cons (pe_fmt (ha.pe c hc)) (.cons pe_str (.cons (pe_fmt (hb.pe c hc)) .nil)))) fun σ H Q q => ?_⟩
  obtain ⟨e, R, r, e', he, q⟩ := q
  unfold xF3 at he
  cases h1 : f e with
  | none => rw [h1] at he; cases he
  | some p =>
  obtain ⟨r1, e1⟩ := p
  rw [h1] at he; dsimp only at he
  split at he
  · rename_i d1 h2
    split at he
    · rename_i y1 h3
      cases h4 : g e1 with
      | none => rw [h4] at he; cases he
      | some p =>
      obtain ⟨r2, e2⟩ := p
      rw [h4] at he; dsimp only at he
      split at he
      · rename_i d2 h5
        split at he
        · rename_i y2 h6
          split at he
          · rename_i hl
            cases he
            refine ⟨e, R, r1, _, h1, fun v H1 S hv => fmt_ok (Q := fun x H1 => ∃ y, x = V.str y ∧ (Str.empty ++ y).length ≤ sizeLine ∧ tJs [tC (V.str w), tFmt (tD c g)] (Str.empty ++ y) σ H1 fun out H1 => Q (V.str out) H1) (hv.rb S.rel h2) h3 ?_⟩
            have l1 : (Str.empty ++ y1).length = y1.length := by rw [Str.length_append]; exact Nat.zero_add _
            have l2 : (Str.empty ++ y1 ++ w).length = y1.length + w.length := by rw [Str.length_append, l1]
            have l3 : (Str.empty ++ y1 ++ w ++ y2).length = y1.length + w.length + y2.length := by rw [Str.length_append, l2]
            refine ⟨y1, rfl, by rw [l1, sizeLine_eq]; omega, w, rfl, by rw [l2, sizeLine_eq]; omega, ?_⟩
            refine ⟨e1, S.rel, r2, _, h4, fun u H2 S2 hu => fmt_ok (Q := fun x H1 => ∃ y, x = V.str y ∧ (Str.empty ++ y1 ++ w ++ y).length ≤ sizeLine ∧ tJs [] (Str.empty ++ y1 ++ w ++ y) σ H1 fun out H1 => Q (V.str out) H1) (hu.rb S2.rel h5) h6 ?_⟩
            exact ⟨y2, rfl, by rw [l3, sizeLine_eq]; omega, q _ _ (S.trans S2) (.str _)⟩
          · cases he
        · cases he
      · cases he
    · cases he
  · cases he
end
end DD

namespace DD
open PySem PySem.Spec PyProof.Rows L2

/-! ### text[::-1] -/
def revS (z : Str) : Str := ⟨z.cps.toList.reverse.toArray⟩
theorem revS_len (z : Str) : (revS z).length = z.length := by
  show (z.cps.toList.reverse.toArray).size = z.cps.size
  simp
theorem rev_picked (z : Str) (t : Tok) : ((slicePicked z none none (some (-1, t))).filterMap (z.cps[·]?)).toArray = z.cps.toList.reverse.toArray := by
  unfold slicePicked
  show ((sliceRange ((z.length : Int) - 1) (-1) (-1)).filterMap (z.cps[·]?)).toArray = _
  rw [PySem.W.krv_sliceRange, PySem.W.krv_range, List.filterMap_reverse]
  show (((List.range z.cps.size).filterMap (z.cps[·]?)).reverse).toArray = _
  rw [PySem.W.krv_all]
def xRevS (f : FX) : FX := fun e => match f e with
  | some (r, e1) => (match rd e1 r with
    | some (.str z) => if z.length ≤ 16000000 then some (.d (.str (revS z)), e1) else none
    | _ => none)
  | none => none
section
variable {X : Cx} {pos : Pos} {a : Expr} {f : FX}
def tRevS (te : TE) : TE := fun σ H Q => te σ H fun x H1 => ∃ z, x = .str z ∧ z.length ≤ sizeLine ∧ Q (.str (revS z)) H1
theorem pe_revS {e : Expr} {te : TE} {k : Nat} {p1 p2 p3 : Pos} (he : PE X e te) : PE X (.Subscript e (.Slice none none (some (.UnaryOp .USub (.Constant (.int 1) k p1) p2)) p3) pos) (tRevS te) := by
  refine ⟨fun pins s σ H Q I h => ?_⟩
  refine Subscript_ (thn (he.run pins s σ H _ I h) fun v s1 ⟨x, H1, I1, r1, q1⟩ => ?_)
  obtain ⟨z, rfl, hz, q⟩ := q1
  obtain ⟨t, rfl⟩ := r1
  have hst : PO X (some (.UnaryOp .USub (.Constant (.int 1) k p1) p2)) (tPart (tUn (rU fun i => .int (-i)) (tC (.int 1)))) := po_some (pe_un un_neg pe_int)
  refine wpAny_Slice (thn (po_none.run pins s1 σ H1 (fun o H2 => o = none ∧ H2 = H1) I1 ⟨rfl, rfl⟩) fun vl s2 ⟨l, H2, I2, pl, el, e2⟩ => ?_)
  subst el e2
  refine thn (po_none.run pins s2 σ H2 (fun o H3 => o = none ∧ H3 = H2) I2 ⟨rfl, rfl⟩) fun vu s3 ⟨u, H3, I3, pu, eu, e3⟩ => ?_
  subst eu e3
  refine thn (hst.run pins s3 σ H3 (fun o H4 => o = some (-1) ∧ H4 = H3) I3 ⟨1, rfl, -1, rfl, rfl, rfl⟩) fun vs s4 ⟨o, H4, I4, ps, eo, e4⟩ => ?_
  subst eo e4
  have I5 : Inv X pins σ H4 { s4 with heap := s4.heap.push { cls := .type "slice", data := .fields #[vl, vu, vs] } } := I4.kept (t' := s4.toks) fun b ob q => Heap.get?_push_of_some _ q
  show wpAny (model X.prog X.w) X.A (subscriptTail e (.Slice none none (some (.UnaryOp .USub (.Constant (.int 1) k p1) p2)) p3) (.str z t) (.ref s4.heap.objs.size)) (EP X pins σ Q) X.xe { s4 with heap := s4.heap.push { cls := .type "slice", data := .fields #[vl, vu, vs] } }
  refine tail_any (ops := [.str z t, .ref s4.heap.objs.size]) (typeIs_str _ z t) (PySem.F.slot_str_getitem.lookup) ?_ (by with_unfolding_all rfl)
  cases pl
  cases pu
  obtain ⟨t1, rfl⟩ : ∃ t1, vs = .int (-1) t1 := by cases ps; exact ⟨_, rfl⟩
  refine wpAny_getItem_str_slice (l := none) (u := none) (st := some (-1, t1)) ⟨_, Heap.get?_push_size _ rfl, rfl, rfl⟩ rfl ?_
  have e1 : sliceMade z t none none (some (-1, t1)) = .str (revS z) := by
    unfold sliceMade
    rw [if_neg (by simp)]
    show Made.str ⟨((slicePicked z none none (some (-1, t1))).filterMap (z.cps[·]?)).toArray⟩ = _
    rw [rev_picked]; rfl
  rw [e1]
  exact ⟨by rw [revS_len]; exact hz, .str (revS z), _, I5.tok _, ⟨_, rfl⟩, q⟩
theorem de_revS {k : Nat} {p1 p2 p3 : Pos} (h : DE X a f) : DE X (.Subscript a (.Slice none none (some (.UnaryOp .USub (.Constant (.int 1) k p1) p2)) p3) pos) (xRevS f) := by
  refine ⟨fun c hc => pe_imp (pe_revS (h.pe c hc)) fun σ H Q q => ?_⟩
  obtain ⟨e, R, r, e', he, q⟩ := q
  unfold xRevS at he
  cases h1 : f e with
  | none => rw [h1] at he; cases he
  | some p =>
  obtain ⟨r1, e1⟩ := p
  rw [h1] at he; dsimp only at he
  split at he
  · rename_i z h2
    split at he
    · rename_i hl
      cases he
      refine ⟨e, R, r1, _, h1, fun v H1 S hv => ⟨z, (hv.rb S.rel h2).str, by rw [sizeLine_eq]; omega, q _ _ S (.str _)⟩⟩
    · cases he
  · cases he
end
end DD

namespace DD
open PySem PySem.Spec PyProof.Rows L2

/-! ### dicts whose keys are tuples of numbers and None -/
def nbIs : Option Int → Value → Bool
  | none, .none => true
  | some i, .int j _ => j == i
  | some i, .bool b => b2i b == i
  | _, _ => false
theorem nb_shape {k : Option Int} {v : Value} (h : nbIs k v = true) : (k = none ∧ v = .none) ∨ (∃ i t, k = some i ∧ v = .int i t) ∨ ∃ b, k = some (b2i b) ∧ v = .bool b := by
  cases k with
  | none => cases v <;> first | exact .inl ⟨rfl, rfl⟩ | exact nomatch (show false = true from h)
  | some i =>
    cases v with
    | int j t => exact .inr (.inl ⟨i, t, rfl, by rw [eq_of_beq (show (j == i) = true from h)]⟩)
    | bool b => exact .inr (.inr ⟨b, by rw [eq_of_beq (show (b2i b == i) = true from h)], rfl⟩)
    | _ => exact nomatch (show false = true from h)
theorem dec_sm (i j : Int) : decide (some i = some j) = (i == j) := by
  rw [Bool.eq_iff_iff, decide_eq_true_eq, beq_iff_eq]
  exact ⟨fun e => Option.some.inj e, fun e => congrArg some e⟩
def optKind (P : Program) (w : World) : PySem.KeyKind P w (Option Int) where
  is := nbIs
  hash := oHash
  inj := fun v a b ha hb => by
    rcases nb_shape ha with ⟨rfl, rfl⟩ | ⟨i, t, rfl, rfl⟩ | ⟨c, rfl, rfl⟩ <;> rcases nb_shape hb with ⟨rfl, e⟩ | ⟨j, u, rfl, e⟩ | ⟨d, rfl, e⟩ <;> cases e <;> rfl
  byValue := fun k v h => by
    rcases nb_shape h with ⟨rfl, rfl⟩ | ⟨i, t, rfl, rfl⟩ | ⟨c, rfl, rfl⟩ <;> rfl
  pyHash := @fun A E s k v Q hv h => by
    rcases nb_shape hv with ⟨rfl, rfl⟩ | ⟨i, t, rfl, rfl⟩ | ⟨c, rfl, rfl⟩
    · exact (noneKind P w).pyHash (k := none) rfl h
    · exact (PySem.intKind P w).pyHash (k := i) (by show Value.isInt i (.int i t) = true; simp [Value.isInt]) h
    · exact PpSet.pyHash_bool h
  eqBool := @fun A E s a b u v Q hu hv h => by
    rcases nb_shape hu with ⟨rfl, rfl⟩ | ⟨i, t, rfl, rfl⟩ | ⟨c, rfl, rfl⟩ <;> rcases nb_shape hv with ⟨rfl, rfl⟩ | ⟨j, u, rfl, rfl⟩ | ⟨d, rfl, rfl⟩
    · exact (noneKind P w).eqBool (a := none) (b := none) rfl rfl h
    · rw [decide_eq_false (fun z => nomatch z)] at h
      exact SeqAt.EqAt.none_int j u _ _ _ _ h
    · rw [decide_eq_false (fun z => nomatch z)] at h
      exact SeqAt.EqAt.none_bool d _ _ _ _ h
    · rw [decide_eq_false (fun z => nomatch z)] at h
      exact SeqAt.EqAt.int_none i t _ _ _ _ h
    · exact (PySem.intKind P w).eqBool (a := i) (b := j) (by show Value.isInt i (.int i t) = true; simp [Value.isInt]) (by show Value.isInt j (.int j u) = true; simp [Value.isInt]) (by rw [dec_sm] at h; rw [show decide (i = j) = (i == j) from (Bool.beq_eq_decide_eq i j).symm]; exact h)
    · rw [dec_sm] at h
      exact SeqAt.EqAt.int_bool i t d _ _ _ _ h
    · rw [decide_eq_false (fun z => nomatch z)] at h
      exact SeqAt.EqAt.bool_none c _ _ _ _ h
    · rw [dec_sm] at h
      exact SeqAt.EqAt.bool_int c j u _ _ _ _ h
    · exact SeqAt.EqAt.bool_bool c d _ _ _ _ (by
        rw [dec_sm] at h
        have : (b2i c == b2i d) = (c == d) := by cases c <;> cases d <;> rfl
        rw [← this]; exact h)
  «strs» := fun k x t v h => by
    rcases nb_shape h with ⟨_, e⟩ | ⟨_, _, _, e⟩ | ⟨_, _, e⟩ <;> cases e
abbrev knd (X : Cx) : HeapKind X.prog X.w VKey := tupleKind (optKind X.prog X.w)
theorem knd_hash (X : Cx) (k : VKey) : (knd X).hash k = vHash k := rfl
theorem items_opt {P : Program} {w : World} {K : PySem.W.Frag} {H : Hp} : ∀ {k : VKey} {ds : List D} {xs : List V} {vs : List Value}, okDs ds = some k → DqAll K H xs ds → Vals xs vs → ItemsAre (optKind P w) k vs
  | k, [], _, _, h, .nil, .nil => by cases h; exact .nil
  | k, d :: ds, _, _, h, .cons hd hr, .cons r t => by
    unfold okDs at h
    cases h1 : okD1 d with
    | none => rw [h1] at h; cases h
    | some x =>
      rw [h1] at h
      obtain ⟨k', h2, rfl⟩ := Option.map_eq_some_iff.mp h
      refine .cons ?_ (items_opt h2 hr t)
      cases hd with
      | non => cases h1; cases r; rfl
      | int i => cases h1; obtain ⟨u, rfl⟩ := r; show (i == i) = true; exact beq_self_eq_true i
      | bl b => cases h1; cases r; show (b2i b == b2i b) = true; exact beq_self_eq_true _
      | _ => cases h1
section
variable {X : Cx} {pins : List (Addr × Obj)} {σ : L2.St} {H : Hp} {s : Shared}
theorem KeyOk.is {k : VKey} {b : Addr} (I : Inv X pins σ H s) (h : KeyOk X.K H k b) : (knd X).is s.heap k b := by
  obtain ⟨kd, h1, h2⟩ := h
  cases h2 with
  | tup g1 g2 =>
    obtain ⟨its, r, ⟨o, h1', h2', n, h3'⟩, _⟩ := I.tuple g1
    exact ⟨o, its.toArray, n, h1', h2', h3', by simpa using items_opt (P := X.prog) (w := X.w) (show okDs _ = some k from h1) g2 r⟩
  | _ => cases h1
end
theorem dn_ok {P : Program} {w : World} {H : Hp} {h : Heap} {a : Addr} {o : Obj} (e : h.get? a = some o) (ha : (a == sysModules) = false) : ObjOk P w H h a (dnO a o) := ⟨⟨e, ha⟩, ⟨_, e⟩, fun h1 h2 x k => ⟨k o x.1, x.2⟩⟩
theorem ent_keys : ∀ {xs : List DEnt} {ys : List (VKey × Addr × Value)}, Paired EntR xs ys → xs.map (·.1) = ys.map (·.1)
  | _, _, .nil => rfl
  | _, _, .cons h t => by rw [List.map_cons, List.map_cons, h.1, ent_keys t]
theorem ent_is {Z : VKey → Addr → Prop} : ∀ {xs : List DEnt} {ys : List (VKey × Addr × Value)}, Paired EntR xs ys → (∀ x ∈ xs, Z x.1 x.2.1) → ∀ y ∈ ys, Z y.1 y.2.1
  | _, _, .nil, _ => fun _ m => nomatch m
  | _, _, .cons h t, hx => fun y m => by
    rcases List.mem_cons.mp m with rfl | m
    · rw [← h.1, ← h.2.1]; exact hx _ List.mem_cons_self
    · exact ent_is t (fun x q => hx x (List.mem_cons_of_mem _ q)) y m
def atN (xs : List DEnt) (k : VKey) : Option V := (xs.find? fun x => decide (x.1 = k)).map (·.2.2)
def putN (xs : List DEnt) (k : VKey) (b : Addr) (v : V) : List DEnt := if (atN xs k).isSome = true then xs.map (fun x => if x.1 = k then (x.1, x.2.1, v) else x) else xs ++ [(k, b, v)]
theorem ent_find : ∀ {xs : List DEnt} {ys : List (VKey × Addr × Value)} (k : VKey), Paired EntR xs ys → (xs.find? (fun x => decide (x.1 = k)) = none ∧ ys.find? (fun x => decide (x.1 = k)) = none) ∨ ∃ x y, xs.find? (fun x => decide (x.1 = k)) = some x ∧ ys.find? (fun x => decide (x.1 = k)) = some y ∧ EntR x y
  | _, _, _, .nil => .inl ⟨rfl, rfl⟩
  | x :: xs, y :: ys, k, .cons h t => by
    rw [List.find?_cons, List.find?_cons, ← h.1]
    by_cases e : x.1 = k
    · rw [decide_eq_true e]; exact .inr ⟨x, y, rfl, rfl, h⟩
    · rw [decide_eq_false e]; exact ent_find k t
theorem atN_rel {xs : List DEnt} {ys : List (VKey × Addr × Value)} (k : VKey) (h : Paired EntR xs ys) : (atN xs k = none ∧ atKey ys k = none) ∨ ∃ v p, atN xs k = some v ∧ atKey ys k = some p ∧ RelV v p.2 := by
  unfold atN atKey
  rcases ent_find k h with ⟨h1, h2⟩ | ⟨x, y, h1, h2, h3⟩
  · rw [h1, h2]; exact .inl ⟨rfl, rfl⟩
  · rw [h1, h2]; exact .inr ⟨_, _, rfl, rfl, h3.2.2⟩
theorem paired_app {α β : Type} {F : α → β → Prop} : ∀ {l1 l2 : List α} {m1 m2 : List β}, Paired F l1 m1 → Paired F l2 m2 → Paired F (l1 ++ l2) (m1 ++ m2)
  | _, _, _, _, .nil, h => h
  | _, _, _, _, .cons a b, h => .cons a (paired_app b h)
theorem put_rel {xs : List DEnt} {ys : List (VKey × Addr × Value)} {k : VKey} {b : Addr} {v : V} {u : Value} (h : Paired EntR xs ys) (r : RelV v u) : Paired EntR (putN xs k b v) (storedH ys k b u) := by
  unfold putN storedH
  rcases atN_rel k h with ⟨h1, h2⟩ | ⟨w, p, h1, h2, _⟩
  · rw [h1, h2]
    exact paired_app h (.cons ⟨rfl, rfl, r⟩ .nil)
  · rw [h1, h2]
    simp only [Option.isSome_some, if_true]
    clear h1 h2
    induction h with
    | nil => exact .nil
    | @cons x y xs ys h t ih =>
      rw [List.map_cons, List.map_cons]
      refine .cons ?_ ih
      unfold putAt
      by_cases e : x.1 = k
      · rw [if_pos e, if_pos (h.1 ▸ e)]; exact ⟨h.1, h.2.1, r⟩
      · rw [if_neg e, if_neg (fun z => e (h.1.trans z))]; exact h
section
variable {X : Cx} {pins : List (Addr × Obj)} {σ : L2.St} {H : Hp} {s : Shared}
theorem dn_of {a : Addr} {o : Obj} {xs : List DEnt} (I : Inv X pins σ H s) (e : H a = some (dnO a o)) (d : DObj o xs) (hk : ∀ x ∈ xs, KeyOk X.K H x.1 x.2.1) :
    (a == sysModules) = false ∧ s.heap.get? a = some o ∧ xs.length ≤ sizeLine ∧ ∃ ys, Paired EntR xs ys ∧ s.heap.DictOfH (knd X) a ys ∧ ys.length = xs.length := by
  obtain ⟨⟨h1, h2⟩, _⟩ := (show ObjOk X.prog X.w H s.heap a (dnO a o) from I.hok a _ e)
  obtain ⟨hl, hx, es, ep, ys, hd, hp, he, hn⟩ := d
  refine ⟨h2, h1, hl, ys, hp, ⟨o, es, ep, h1, hx, hd, he, ent_is (Z := fun k b => (knd X).is s.heap k b) hp fun x m => (hk x m).is I, ?_⟩, (Paired.length hp).symm⟩
  rw [← ent_keys hp]; exact hn
/-- y in d -/
def rInN (K : PySem.W.Frag) (f : Bool → Bool) : R2 := fun y x H Q => ∃ (b : Addr) (k : VKey) (a : Addr) (o : Obj) (xs : List DEnt), y = .ref b ∧ KeyOk K H k b ∧ x = .ref a ∧ H a = some (dnO a o) ∧ DObj o xs ∧ (∀ x ∈ xs, KeyOk K H x.1 x.2.1) ∧ Q (.bl (f (atN xs k).isSome)) H
theorem at_some {xs : List DEnt} {ys : List (VKey × Addr × Value)} (k : VKey) (h : Paired EntR xs ys) : (atKey ys k).isSome = (atN xs k).isSome := by
  rcases atN_rel k h with ⟨h1, h2⟩ | ⟨v, p, h1, h2, _⟩ <;> rw [h1, h2] <;> rfl
theorem op_inN (hu : X.A.units + 1 < cLine) : OpR X (compareOp .In) (rInN X.K fun b => b) := by
  intro pins s σ H x y v u Q I rx ry h
  obtain ⟨b, k, a, o, xs, rfl, hb, rfl, ha, hd, hk, q⟩ := h
  cases rx
  cases ry
  obtain ⟨h2, _, hl, ys, hp, dd, _⟩ := dn_of I ha hd hk
  refine wpAny_in_heap (knd := knd X) (tupleKind_room_in1 hu) (hb.is I) h2 dd ?_
  rw [at_some k hp]
  exact ⟨.bl _, H, I.tok _, rfl, q⟩
theorem op_notInN (hu : X.A.units + 1 < cLine) : OpR X (compareOp .NotIn) (rInN X.K fun b => !b) := by
  intro pins s σ H x y v u Q I rx ry h
  obtain ⟨b, k, a, o, xs, rfl, hb, rfl, ha, hd, hk, q⟩ := h
  cases rx
  cases ry
  obtain ⟨h2, _, hl, ys, hp, dd, _⟩ := dn_of I ha hd hk
  refine wpAny_notIn_heap (knd := knd X) (tupleKind_room_in1 hu) (hb.is I) h2 dd ?_
  rw [at_some k hp]
  exact ⟨.bl _, H, I.tok _, rfl, q⟩
end
end DD

namespace DD
open PySem PySem.Spec PyProof.Rows L2

section
variable {X : Cx} {pins : List (Addr × Obj)} {σ : L2.St} {H : Hp} {s : Shared}
/-- d[y], the key is there -/
def rIxN (K : PySem.W.Frag) : R2 := fun x y H Q => ∃ (b : Addr) (k : VKey) (a : Addr) (o : Obj) (xs : List DEnt) (v : V), y = .ref b ∧ KeyOk K H k b ∧ x = .ref a ∧ H a = some (dnO a o) ∧ DObj o xs ∧ (∀ x ∈ xs, KeyOk K H x.1 x.2.1) ∧ atN xs k = some v ∧ Q v H
theorem ix_n (hu : X.A.units + 1 < cLine) : IxR X (rIxN X.K) := by
  intro value slice pins s σ H x y v u Q I rx ry h hs
  obtain ⟨b, k, a, o, xs, z, rfl, hb, rfl, ha, hd, hk, hv, q⟩ := h
  cases rx
  cases ry
  obtain ⟨h2, _, hl, ys, hp, dd, _⟩ := dn_of I ha hd hk
  obtain ⟨z', p, e1, e2, r⟩ : ∃ z' p, atN xs k = some z' ∧ atKey ys k = some p ∧ RelV z' p.2 := by
    rcases atN_rel k hp with ⟨e1, _⟩ | h
    · rw [hv] at e1; cases e1
    · exact h
  rw [hv] at e1
  cases e1
  exact tail_any (dd.typeIs) PySem.slot_dict_getitem.lookup (wpAny_getItem_heap (knd := knd X) (tupleKind_room_in1 hu) (hb.is I) dd e2 ⟨z, H, I.tok _, r, q⟩) hs
/-- d.get(y, z) -/
def rGetN (K : PySem.W.Frag) : V → List V → Hp → VK → Prop := fun x ys H Q => ∃ (b : Addr) (k : VKey) (a : Addr) (o : Obj) (xs : List DEnt) (z : V), x = .ref a ∧ ys = [.ref b, z] ∧ KeyOk K H k b ∧ H a = some (dnO a o) ∧ DObj o xs ∧ (∀ x ∈ xs, KeyOk K H x.1 x.2.1) ∧ Q ((atN xs k).getD z) H
theorem mt_getN (hu : X.A.units + 1 < cLine) : MtR X "dict.get" (rGetN X.K) := by
  intro pins s σ H x ys v us Q I rx rs h
  obtain ⟨b, k, a, o, xs, z, rfl, rfl, hb, ha, hd, hk, q⟩ := h
  cases rx
  obtain ⟨u1, u2, rfl, r1, r2⟩ := vals2 rs
  cases r1
  obtain ⟨h2, _, hl, ys, hp, dd, _⟩ := dn_of I ha hd hk
  refine call_meetsIn PySem.F.slot_dict_get dd.typeIs PySem.F.entry_dict_get (PySem.F.args_dict_get_3 _ _ _) (meetsH_dict_get_default (knd X) a b h2 u2) ⟨tupleKind_room_in1 hu, k, ys, hb.is I, dd, ?_⟩
  rcases atN_rel k hp with ⟨e1, e2⟩ | ⟨w, p, e1, e2, r⟩
  · rw [e1] at q
    rw [e2]
    exact ⟨z, H, I.tok _, r2, q⟩
  · rw [e1] at q
    rw [e2]
    exact ⟨w, H, I.tok _, r, q⟩
/-- the object behind d[y] = v -/
def rSetN (K : PySem.W.Frag) : TSet := fun x y v H Q => ∃ (b : Addr) (k : VKey) (a : Addr) (o : Obj) (xs : List DEnt), x = .ref a ∧ y = .ref b ∧ KeyOk K H k b ∧ H a = some (dnO a o) ∧ DObj o xs ∧ (∀ x ∈ xs, KeyOk K H x.1 x.2.1) ∧ xs.length < sizeLine ∧
  ∀ o', DObj o' (putN xs k b v) → Q (upd H a (dnO a o'))
theorem putN_len (xs : List DEnt) (k : VKey) (b : Addr) (v : V) : (putN xs k b v).length ≤ xs.length + 1 := by
  unfold putN
  split <;> simp
theorem set_n (hu : X.A.units + 1 < cLine) : PSet X (rSetN X.K) := by
  intro pins s σ H o i v ov iv u Q I ro ri rv h
  obtain ⟨b, k, a, ob, xs, rfl, rfl, hb, ha, hd, hk, hlt, q⟩ := h
  cases (show ov = Value.ref a from ro)
  cases (show iv = Value.ref b from ri)
  obtain ⟨h2, h1, hl, ys, hp, dd, hyl⟩ := dn_of I ha hd hk
  have hz : ys.length ≤ sizeLine := by omega
  refine wpAny_setItem_heap (knd := knd X) (hsz := hz) (tupleKind_room_in1 hu) (hb.is I) dd fun h' dd' hs => ?_
  obtain ⟨o', es, ep, hq, h3, h4, h5, h6, h7⟩ := dd'
  have D' : DObj o' (putN xs k b v) := by
    refine ⟨by have := putN_len xs k b v; omega, h3, es, ep, _, h4, put_rel hp rv, h5, ?_⟩
    rw [ent_keys (put_rel (k := k) (b := b) hp rv)]; exact h7
  have I2 : Inv X pins σ (upd H a (dnO a o')) { s with heap := h', toks := s.toks + (knd X).draws k } := I.write (x := a) (e := a) (by rw [ha]; exact True.intro) (.inl rfl) (fun b q hb z => (hs.2 b hb).trans z) ⟨o', hq⟩ (dn_ok hq h2)
  exact ⟨_, I2, q o' D'⟩
/-! ### {}, {y: v} -/
def objE : Obj := { cls := .type "dict", data := .dict #[] }
theorem dobj_empty : DObj objE [] := ⟨Nat.zero_le _, ⟨rfl, rfl, rfl⟩, #[], 0, [], rfl, .nil, rfl, List.nodup_nil⟩
def tNewN : TE := fun _ H Q => ∀ p, H p = none → Q (.ref p) (upd H p (dnO p objE))
theorem big_ne (I : Inv X pins σ H s) : (s.heap.objs.size == sysModules) = false := beq_eq_false_iff_ne.mpr (Nat.ne_of_gt I.big)
theorem pe_newN {pos : Pos} : PE X (.Dict [] [] pos) tNewN := ⟨fun pins s σ H Q I h =>
  wpAny_Dict_empty ⟨.ref s.heap.objs.size, _, I.laid (a := s.heap.objs.size) (o := dnO s.heap.objs.size objE) (t' := s.toks) (fun _ _ q => Heap.get?_push_of_some _ q) (Nat.le_refl _) (dn_ok (Heap.get?_push_size _ rfl) (big_ne I)), rfl, h _ (I.hok.fresh (Nat.le_refl _))⟩⟩
def tOneN (K : PySem.W.Frag) (tk tv : TE) : TE := fun σ H Q => ∀ p, H p = none → tk σ (upd H p (dnO p objE)) fun x H1 => tv σ H1 fun v H2 => ∃ (b : Addr) (k : VKey), x = .ref b ∧ KeyOk K H2 k b ∧ H2 p = some (dnO p objE) ∧ ∀ o', DObj o' [(k, b, v)] → Q (.ref p) (upd H2 p (dnO p o'))
theorem pe_oneN {ek ev : Expr} {pos : Pos} {tk tv : TE} (hu : X.A.units < cLine) (hk : PE X ek tk) (hv : PE X ev tv)
    (hshape : (evalEachOpt [some ek] X.env).zip ((evalEach [ev] X.env).map fun v => do let x ← v; standAt pos; pure x) = [(eval ek X.env, do let x ← eval ev X.env; standAt pos; pure x)].map fun p => (some p.1, p.2) := by rfl) :
    PE X (.Dict [some ek] [ev] pos) (tOneN X.K tk tv) := by
  refine ⟨fun pins s σ H Q I q => ?_⟩
  have hn := I.hok.fresh (Nat.le_refl s.heap.objs.size)
  have I1 := I.laid (a := s.heap.objs.size) (o := dnO s.heap.objs.size objE) (h' := s.heap.push objE) (t' := s.toks) (fun _ _ q => Heap.get?_push_of_some _ q) (Nat.le_refl _) (dn_ok (Heap.get?_push_size _ rfl) (big_ne I))
  rw [arm_eval_Dict, hshape, dictDisplay_pairs _ (by simp) (by simp)]
  refine wpAny_bind (wpAny_standAt (wpAny_bind (wpAny_subDictH (knd := knd X) hu (by simp) ?_)))
  refine thn (((pps_cons hk hv pps_nil).run (pos := pos)) pins _ σ _ (fun ps H2 => match ps with
    | [(x, v)] => ∃ (b : Addr) (k : VKey), x = .ref b ∧ KeyOk X.K H2 k b ∧ H2 s.heap.objs.size = some (dnO s.heap.objs.size objE) ∧ ∀ o', DObj o' [(k, b, v)] → Q (.ref s.heap.objs.size) (upd H2 s.heap.objs.size (dnO s.heap.objs.size o'))
    | _ => False) I1 (q _ hn)) fun vs s1 hv => ?_
  · obtain ⟨ps, H2, I2, rel, hv⟩ := hv
    match ps, rel, hv with
    | [(x, v)], rel, hv =>
    obtain ⟨b, k, rfl, hkey, hp, q2⟩ := hv
    cases rel with
    | @cons _ p _ qs h t =>
    cases t
    obtain ⟨u1, u2⟩ := p
    obtain ⟨r1, r2⟩ := h
    cases (show u1 = Value.ref b from r1)
    obtain ⟨h2, h1, hl, ys, hpr, dd, hyl⟩ := dn_of I2 hp dobj_empty (fun _ m => nomatch m)
    cases hpr
    refine ⟨[(k, b, u2)], ⟨rfl, rfl, hkey.is I2, trivial⟩, dd, fun h' tk' dd' hs => ?_⟩
    obtain ⟨o', es, ep, hq, h3, h4, h5, h6, h7⟩ := dd'
    have e0 : storedAllH [] [(k, b, u2)] = [(k, b, u2)] := rfl
    rw [e0] at h5 h7
    have D' : DObj o' [(k, b, v)] := ⟨by rw [sizeLine_eq]; show 1 ≤ _; omega, h3, es, ep, _, h4, .cons ⟨rfl, rfl, r2⟩ .nil, h5, by simp⟩
    have I3 : Inv X pins σ (upd H2 s.heap.objs.size (dnO s.heap.objs.size o')) { s1 with heap := h', toks := tk' } := I2.write (x := s.heap.objs.size) (e := s.heap.objs.size) (by rw [hp]; exact True.intro) (.inl rfl) (fun b q hb z => (hs.2 b hb).trans z) ⟨o', hq⟩ (dn_ok hq h2)
    exact wpAny_pure ⟨_, _, I3, (show RelV (.ref _) (.ref _) from rfl), q2 o' D'⟩
end
end DD

namespace DD
open PySem PySem.Spec PyProof.Rows L2

/-! ### for k in d -/
def ItN (d : Addr) (o : Obj) (xs : List DEnt) : It :=
  ⟨fun i H => H d = some (dnO d o) ∧ i < xs.length, fun i H x H' => H' = H ∧ ∃ e : DEnt, xs[i]? = some e ∧ x = .ref e.2.1, fun i H => H d = some (dnO d o) ∧ xs.length ≤ i⟩
theorem ent_get : ∀ {xs : List DEnt} {ys : List (VKey × Addr × Value)} {i : Nat} {e : DEnt}, Paired EntR xs ys → xs[i]? = some e → ∃ y, ys[i]? = some y ∧ EntR e y
  | _, _, _, _, .nil, h => by simp at h
  | _, _, 0, _, .cons r t, h => by
    rw [List.getElem?_cons_zero] at h
    cases h
    exact ⟨_, rfl, r⟩
  | _, _, i + 1, _, .cons r t, h => by
    rw [List.getElem?_cons_succ] at h
    obtain ⟨y, h1, h2⟩ := ent_get t h
    exact ⟨y, by rw [List.getElem?_cons_succ]; exact h1, h2⟩
theorem dobj_at {o : Obj} {xs : List DEnt} {es : Array DictEntry} {ep : Nat} (d : DObj o xs) (hd : o.data = .dict es ep) : es.size = xs.length ∧ ∀ (i : Nat) (e : DEnt), xs[i]? = some e → ∃ en, es[i]? = some en ∧ en.key = .ref e.2.1 := by
  obtain ⟨_, _, es', ep', ys, hd', hp, he, _⟩ := d
  rw [hd] at hd'
  cases hd'
  have hl := Paired.length hp
  refine ⟨?_, fun i e h => ?_⟩
  · have := congrArg List.length he
    rw [List.length_map, Array.length_toList] at this
    omega
  · obtain ⟨y, h1, h2⟩ := ent_get hp h
    refine ⟨entN y, ?_, ?_⟩
    · rw [← Array.getElem?_toList, he, List.getElem?_map, h1]; rfl
    · show Value.ref y.2.1 = _
      rw [h2.2.1]
section
variable {P : Program} {w : World} {K : PySem.W.Frag} {tg : Expr} {d : Addr} {o : Obj} {es : Array DictEntry} {ep : Nat}
theorem turn_n {xs : List DEnt} (it : Addr) (D : DObj o xs) (hod : o.data = .dict es ep) : Turn P w K tg (ItN d o xs) [it] it (fun i h => h.IsKeyIter it d i xs.length ep) where
  mem := by simp
  obj := fun i h st b hb => by
    have e : b = it := by simpa using hb
    subst e
    obtain ⟨oi, e, c, dd⟩ := st
    exact ⟨oi, e, fun v z => by rw [dd] at z; cases z⟩
  keep := fun i h h' st k => st.at fun oi e => k it (by simp) oi e
  item := by
    intro X hP hw hK hc i pins s σ H E I hf st hg
    subst hP hw hK
    obtain ⟨hd, hi⟩ := hg
    obtain ⟨f0, f1, f2, f3, f4, f5⟩ := hf it (by simp)
    obtain ⟨⟨hgd, hs⟩, _⟩ := (show ObjOk X.prog X.w H s.heap d (dnO d o) from I.hok d _ hd)
    obtain ⟨hsz, hat⟩ := dobj_at D hod
    obtain ⟨e0, he0⟩ : ∃ e0, xs[i]? = some e0 := ⟨xs[i], List.getElem?_eq_getElem hi⟩
    obtain ⟨en, hen, hkey⟩ := hat i e0 he0
    refine next_key_item st hgd hod hsz hen fun h' st' sb => ?_
    have I1 : Inv X pins σ H { s with heap := h' } := I.turned (t' := s.toks) (fun b ob hb e => (sb.2 b hb).trans e) f0 f1 f3 f4 f5
    obtain ⟨oi, e, c, dd⟩ := id st'
    exact ⟨en.key, rfl, go_of (s := { s with heap := h' }) e c dd (by decide) ⟨.ref e0.2.1, H, I1, by rw [hkey]; exact (show RelV (.ref _) (.ref _) from rfl), ⟨rfl, e0, he0, rfl⟩, st', fun b hb => (hf b hb).1⟩⟩
  done := by
    intro X hP hw hK hc i pins s σ H E I hf st hg
    subst hP hw hK
    obtain ⟨hd, hi⟩ := hg
    obtain ⟨f0, f1, f2, f3, f4, f5⟩ := hf it (by simp)
    obtain ⟨⟨hgd, hs⟩, _⟩ := (show ObjOk X.prog X.w H s.heap d (dnO d o) from I.hok d _ hd)
    obtain ⟨hsz, hat⟩ := dobj_at D hod
    exact next_key_end (I.ok.hd hc) st hgd hod hsz hi fun h' eb => ⟨rfl, I.turned (t' := s.toks) (fun b ob hb e => eb b ob hb e) f0 f1 f3 f4 f5⟩
  self := fun A i s Q E st h => wpAny_pyIter_keyiter st h
end
def iKeysN (td : TE) : TI := fun σ H R => td σ H fun x H1 => ∃ d o xs, x = .ref d ∧ H1 d = some (dnO d o) ∧ DObj o xs ∧ R (ItN d o xs) H1
section
variable {X : Cx} {tg e : Expr} {td : TE}
theorem pi_keysN (he : PE X e td) : PI X tg e (iKeysN td) := by
  refine ⟨fun pins s σ H R I h => ?_⟩
  refine thn (he.run pins s σ H _ I h) fun u s1 ⟨x, H1, I1, rx, d, o, xs, ex, hd, D, q⟩ => ?_
  subst ex
  obtain rfl : u = Value.ref d := rx
  obtain ⟨⟨hgd, hs⟩, _⟩ := (show ObjOk X.prog X.w H1 s1.heap d (dnO d o) from I1.hok d _ hd)
  obtain ⟨_, hx, es, ep, ys, hdt, _⟩ := id D
  obtain ⟨hsz, _⟩ := dobj_at D hdt
  refine iter_keys hs hgd hx hdt (pi_one (tk := s1.toks) I1 _ (turn_n _ D hdt) ⟨_, Heap.get?_push_size _ rfl, rfl, ?_⟩ q)
  rw [hsz] <;> rfl
end
end DD

namespace DD
open PySem PySem.Spec PyProof.Rows L2

/-! ### dicts as data -/
theorem key_at {K : PySem.W.Frag} {H : Hp} {v : V} {d : D} {k : VKey} (h : Dq K H v d) (hk : keyOf d = some k) : ∃ b, v = .ref b ∧ KeyOk K H k b := by
  cases h with
  | tup h1 h2 => exact ⟨_, rfl, _, hk, .tup h1 h2⟩
  | _ => cases hk
def lookK (kvs : List (D × D)) (k : VKey) : Option D := (kvs.find? fun x => decide (keyOf x.1 = some k)).map (·.2)
def putKv (kvs : List (D × D)) (kd : D) (k : VKey) (d : D) : List (D × D) := if (lookK kvs k).isSome = true then kvs.map (fun x => if keyOf x.1 = some k then (x.1, d) else x) else kvs ++ [(kd, d)]
theorem kv_find {K : PySem.W.Frag} {H : Hp} : ∀ {xs : List DEnt} {kvs : List (D × D)} (k : VKey), DqKv K H xs kvs → (atN xs k = none ∧ lookK kvs k = none) ∨ ∃ v d, atN xs k = some v ∧ lookK kvs k = some d ∧ Dq K H v d
  | _, _, _, .nil => .inl ⟨rfl, rfl⟩
  | _, _, k, .cons (k := k0) (b := b) (v := v) (d := d) hk _ hd t => by
    unfold atN lookK
    rw [List.find?_cons, List.find?_cons]
    dsimp only
    rw [hk]
    by_cases e : k0 = k
    · rw [decide_eq_true e, decide_eq_true (congrArg some e)]
      exact .inr ⟨v, d, rfl, rfl, hd⟩
    · rw [decide_eq_false e, decide_eq_false (fun z => e (Option.some.inj z))]
      exact kv_find k t
theorem kv_app {K : PySem.W.Frag} {H : Hp} : ∀ {xs ys : List DEnt} {kvs lvs : List (D × D)}, DqKv K H xs kvs → DqKv K H ys lvs → DqKv K H (xs ++ ys) (kvs ++ lvs)
  | _, _, _, _, .nil, h => h
  | _, _, _, _, .cons a b c t, h => .cons a b c (kv_app t h)
theorem kv_map {K : PySem.W.Frag} {H : Hp} {k : VKey} {v : V} {d : D} : ∀ {xs : List DEnt} {kvs : List (D × D)}, DqKv K H xs kvs → Dq K H v d → DqKv K H (xs.map (fun x => if x.1 = k then (x.1, x.2.1, v) else x)) (kvs.map (fun x => if keyOf x.1 = some k then (x.1, d) else x))
  | _, _, .nil, _ => .nil
  | _, _, .cons (k := k0) hk a c t, hd => by
    rw [List.map_cons, List.map_cons]
    dsimp only
    rw [hk]
    by_cases e : k0 = k
    · rw [if_pos e, if_pos (congrArg some e)]; exact .cons hk a hd (kv_map t hd)
    · rw [if_neg e, if_neg (fun z => e (Option.some.inj z))]; exact .cons hk a c (kv_map t hd)
theorem kv_put {K : PySem.W.Frag} {H : Hp} {xs : List DEnt} {kvs : List (D × D)} {k : VKey} {b : Addr} {v : V} {kd d : D} (h : DqKv K H xs kvs) (hk : keyOf kd = some k) (hb : Dq K H (.ref b) kd) (hd : Dq K H v d) : DqKv K H (putN xs k b v) (putKv kvs kd k d) := by
  unfold putN putKv
  rcases kv_find k h with ⟨h1, h2⟩ | ⟨w, e, h1, h2, _⟩
  · rw [h1, h2]
    exact kv_app h (.cons hk hb hd .nil)
  · rw [h1, h2]
    simp only [Option.isSome_some, if_true]
    exact kv_map h hd
theorem kv_len {K : PySem.W.Frag} {H : Hp} : ∀ {xs : List DEnt} {kvs : List (D × D)}, DqKv K H xs kvs → xs.length = kvs.length
  | _, _, .nil => rfl
  | _, _, .cons _ _ _ t => by rw [List.length_cons, List.length_cons, kv_len t]
theorem kv_keys {K : PySem.W.Frag} {H : Hp} : ∀ {xs : List DEnt} {kvs : List (D × D)}, DqKv K H xs kvs → ∀ x ∈ xs, KeyOk K H x.1 x.2.1
  | _, _, .nil => fun _ m => nomatch m
  | _, _, .cons hk a _ t => fun x m => by
    rcases List.mem_cons.mp m with rfl | m
    · exact ⟨_, hk, a⟩
    · exact kv_keys t x m
def gInN : D → D → Option D
  | kd, .dict kvs => (keyOf kd).map fun k => .bool (lookK kvs k).isSome
  | _, _ => none
def gNotInN : D → D → Option D
  | kd, .dict kvs => (keyOf kd).map fun k => .bool (!(lookK kvs k).isSome)
  | _, _ => none
def gIxN : D → D → Option D
  | .dict kvs, kd => match keyOf kd with
    | some k => lookK kvs k
    | none => none
  | _, _ => none
theorem keyOf_nl {d : D} {k : VKey} (h : keyOf d = some k) : (∀ xs, d ≠ .list xs) ∧ ∀ kvs, d ≠ .dict kvs := ⟨fun xs e => (by subst e; cases h), fun xs e => (by subst e; cases h)⟩
section
variable {K : PySem.W.Frag}
theorem opd_inNf {f : Bool → Bool} {g : D → D → Option D} (hg : ∀ kd kvs, g kd (.dict kvs) = (keyOf kd).map fun k => .bool (f (lookK kvs k).isSome)) (hn : ∀ kd d r, g kd d = some r → ∃ kvs, d = .dict kvs) : OpD K (rInN K f) g := by
  intro O H x y dx dy d Q ho hx hy hq q
  obtain ⟨kvs, rfl⟩ := hn _ _ _ hq
  rw [hg] at hq
  obtain ⟨k, h1, rfl⟩ := Option.map_eq_some_iff.mp hq
  obtain ⟨b, rfl, hb⟩ := key_at (hx.data (keyOf_nl h1).1 (keyOf_nl h1).2) h1
  obtain ⟨a, o, xs, rfl, ha, hd, hkv⟩ := hy.dict
  refine ⟨b, k, a, o, xs, rfl, keyOk_mono hid_le hb, rfl, ha, hd, fun x m => keyOk_mono hid_le (kv_keys hkv x m), ?_⟩
  have e : (atN xs k).isSome = (lookK kvs k).isSome := by
    rcases kv_find k hkv with ⟨h1, h2⟩ | ⟨v, d, h1, h2, _⟩ <;> rw [h1, h2] <;> rfl
  rw [e]
  exact q _ H (Same.refl H) (.bl _)
theorem opd_inN : OpD K (rInN K fun b => b) gInN := opd_inNf (fun _ _ => rfl) fun kd d r h => by
  cases d <;> first | exact ⟨_, rfl⟩ | (cases kd <;> cases h)
theorem opd_notInN : OpD K (rInN K fun b => !b) gNotInN := opd_inNf (fun _ _ => rfl) fun kd d r h => by
  cases d <;> first | exact ⟨_, rfl⟩ | (cases kd <;> cases h)
theorem opd_ixN : OpD K (rIxN K) gIxN := by
  intro O H x y dx dy d Q ho hx hy hq q
  unfold gIxN at hq
  split at hq
  · rename_i kvs
    split at hq
    · rename_i k h1
      obtain ⟨b, rfl, hb⟩ := key_at (hy.data (keyOf_nl h1).1 (keyOf_nl h1).2) h1
      obtain ⟨a, o, xs, rfl, ha, hd, hkv⟩ := hx.dict
      rcases kv_find k hkv with ⟨_, h2⟩ | ⟨v, d', h2, h3, h4⟩
      · rw [hq] at h2; cases h2
      · rw [hq] at h3; cases h3
        exact ⟨b, k, a, o, xs, v, rfl, keyOk_mono hid_le hb, rfl, ha, hd, fun x m => keyOk_mono hid_le (kv_keys hkv x m), h2, q _ H (Same.refl H) h4⟩
    · cases hq
  · cases hq
end
end DD

namespace DD
open PySem PySem.Spec PyProof.Rows L2

/-! ### for k in d, as data -/
theorem kv_get {K : PySem.W.Frag} {H : Hp} : ∀ {xs : List DEnt} {kvs : List (D × D)} {i : Nat} {d : D}, DqKv K H xs kvs → (kvs.map (·.1))[i]? = some d → ∃ e : DEnt, xs[i]? = some e ∧ keyOf d = some e.1 ∧ Dq K H (.ref e.2.1) d
  | _, _, _, _, .nil, h => by simp at h
  | _, _, 0, _, .cons hk a _ _, h => by
    rw [List.map_cons, List.getElem?_cons_zero] at h
    cases h
    exact ⟨_, rfl, hk, a⟩
  | _, _, i + 1, _, .cons _ _ _ t, h => by
    rw [List.map_cons, List.getElem?_cons_succ] at h
    obtain ⟨e, h1, h2⟩ := kv_get t h
    exact ⟨e, by rw [List.getElem?_cons_succ]; exact h1, h2⟩
theorem wk_keys {K : PySem.W.Frag} {O : Addr → Prop} {H : Hp} {a : Addr} {o : Obj} {xs : List DEnt} {kvs : List (D × D)} (ha : hid O H a = some (dnO a o)) (h : DqKv K (hid O H) xs kvs) : Wk K O (ItN a o xs) (kvs.map (·.1)) H := fun O' H' s _ => by
  have h1 : H' a = some (dnO a o) := hid_le _ _ (s _ _ ha)
  refine ⟨⟨h1, by rw [List.length_map, kv_len h]; exact Nat.le_refl _⟩, fun i d hi => ?_⟩
  obtain ⟨e, g1, _, g2⟩ := kv_get h hi
  exact ⟨⟨h1, (List.getElem?_eq_some_iff.mp g1).1⟩, fun x H'' y => by
    obtain ⟨rfl, e', k1, rfl⟩ := y
    rw [g1] at k1; cases k1
    exact ⟨Same.refl _, dp_mono s g2⟩⟩
/-- the keys of a dict (a dict of one's own is given away) -/
def iKeysD (f : FX) : FL := fun e => match f e with
  | some (r, e1) => (match fz r e1 with
    | some (.dict kvs, e2) => some (kvs.map (·.1), e2)
    | _ => none)
  | none => none
section
variable {X : Cx} {tg x d k z : Expr} {f g h : FX} {pos apos : Pos}
theorem di_keys (h : DE X x f) : DI X tg x (iKeysD f) := by
  refine ⟨fun c hc => pi_imp (pi_keysN (h.pe c hc)) fun σ H R q => ?_⟩
  obtain ⟨e, R0, ds, e', he, q⟩ := q
  unfold iKeysD at he
  cases h1 : f e with
  | none => rw [h1] at he; cases he
  | some p =>
  obtain ⟨r, e1⟩ := p
  rw [h1] at he; dsimp only at he
  split at he
  · rename_i kvs e2 h2
    cases he
    refine ⟨e, R0, r, e1, h1, fun v H1 S hr => ?_⟩
    obtain ⟨S2, hd⟩ := fz_ok S.rel hr h2
    cases hd with
    | dct g1 g2 g3 => exact ⟨_, _, _, rfl, hid_le _ _ g1, g2, q _ H1 (S.trans S2) (wk_keys g1 g3)⟩
  · cases he
/-! ### d.get(k, z) -/
def xGetN (f g h : FX) : FX := fun e => match f e with
  | some (r1, e1) => (match rd e1 r1 with
    | some (.dict _) => (match g e1 with
      | some (r2, e2) => (match h e2 with
        | some (r3, e3) => (match rd e3 r1, rd e3 r2, rd e3 r3 with
          | some (.dict kvs), some kd, some (.int z) => (match keyOf kd with
            | some k => some (.d ((lookK kvs k).getD (.int z)), e3)
            | none => none)
          | _, _, _ => none)
        | none => none)
      | none => none)
    | _ => none)
  | none => none
def tGetN (K : PySem.W.Frag) (to : TE) (t : TA) : TE := fun σ H Q => to σ H fun x H1 => (∃ a o xs, x = .ref a ∧ H1 a = some (dnO a o) ∧ DObj o xs) ∧ t σ H1 fun vs H2 => rGetN K x vs H2 Q
theorem pe_getN {o e : Expr} {es : List Expr} {to : TE} {t : TA} {apos cpos : Pos} (hu : X.A.units + 1 < cLine) (ho : PE X o to) (ha : PA X (e :: es) t)
    (hbase : attributeBase o "get" X.env (eval o X.env) = eval o X.env := by rfl)
    (hfew : ((backTo cpos (starEach (e :: es) X.env)).all (fun x => !x.1) && (backToKw cpos (keywordEach [] X.env)).all (fun x => x.1.isSome)
      && decide ((e :: es).length + ([] : List Keyword).length + (if ([] : List Keyword).isEmpty then 0 else 1) < 30)) = true := by rfl)
    (hline : (apos.endLine == cpos.line) = true := by rfl) (hs : starEach (e :: es) X.env = (false, eval e X.env) :: starEach es X.env := by rfl) (hplain : (backTo cpos (starEach es X.env)).any (·.1) = false := by rfl) :
    PE X (.Call (.Attribute o "get" apos) (e :: es) [] cpos) (tGetN X.K to t) := by
  refine ⟨fun pins s σ H Q I h => ?_⟩
  refine wpAny_Call_method_late hbase hfew hline rfl (thn (ho.run pins s σ H _ I h) fun v s1 ⟨x, H1, I1, r1, ⟨a, ob, xs, ex, ha1, hd⟩, q1⟩ => ?_)
  subst ex
  obtain rfl : v = Value.ref a := r1
  obtain ⟨⟨hgd, _⟩, _⟩ := (show ObjOk X.prog X.w H1 s1.heap a (dnO a ob) from I1.hok a _ ha1)
  refine ⟨"dict", "dict.get", PySem.F.plainAttrs_dict, PySem.F.slot_dict_get, PySem.F.type_dict_get, ⟨ob, hgd, hd.2.1.1⟩, fun b e => ?_, ?_⟩
  · cases e
    exact ⟨ob, hgd, hd.2.1.2.1⟩
  have hA := ha.run cpos pins s1 σ H1 _ I1 q1
  rw [hs] at hA ⊢
  refine Calls.callWith_builtin (by show (false || (backTo cpos (starEach es X.env)).any (·.1)) = false; rw [hplain] <;> rfl) (Calls.evalArgs_plain ?_)
  exact thn hA fun us s2 ⟨vs, H2, I2, r2, q2⟩ => mt_getN hu pins s2 σ H2 (.ref a) vs (.ref a) us Q I2 rfl r2 q2
theorem de_getN (hu : X.A.units + 1 < cLine) (hd : DE X d f) (hk : DE X k g) (hz : DE X z h) (hbase : attributeBase d "get" X.env (eval d X.env) = eval d X.env := by rfl)
    (hline : (apos.endLine == pos.line) = true := by rfl) (hs : starEach [k, z] X.env = (false, eval k X.env) :: starEach [z] X.env := by rfl) (hs2 : starEach [z] X.env = (false, eval z X.env) :: starEach [] X.env := by rfl)
    (hpl : (backTo pos (starEach [z] X.env)).any (·.1) = false := by rfl)
    (hfew : ((backTo pos (starEach [k, z] X.env)).all (fun x => !x.1) && (backToKw pos (keywordEach [] X.env)).all (fun x => x.1.isSome)
      && decide (([k, z] : List Expr).length + ([] : List Keyword).length + (if ([] : List Keyword).isEmpty then 0 else 1) < 30)) = true := by rfl) : DE X (.Call (.Attribute d "get" apos) [k, z] [] pos) (xGetN f g h) := by
  refine ⟨fun c hc => pe_imp (pe_getN hu (hd.pe c hc) (pa_cons (hk.pe c hc) (pa_cons (hz.pe c hc) pa_nil hs2) hs) hbase hfew hline hs hpl) fun σ H Q q => ?_⟩
  obtain ⟨e, R, r, e', he, q⟩ := q
  unfold xGetN at he
  cases h1 : f e with
  | none => rw [h1] at he; cases he
  | some p =>
  obtain ⟨r1, e1⟩ := p
  rw [h1] at he; dsimp only at he
  split at he
  case h_2 => cases he
  rename_i kvs0 h0
  cases h2 : g e1 with
  | none => rw [h2] at he; cases he
  | some p =>
  obtain ⟨r2, e2⟩ := p
  rw [h2] at he; dsimp only at he
  cases h3 : h e2 with
  | none => rw [h3] at he; cases he
  | some p =>
  obtain ⟨r3, e3⟩ := p
  rw [h3] at he; dsimp only at he
  split at he
  · rename_i kvs kd z0 h4 h5 h7
    split at he
    · rename_i k0 h6
      cases he
      refine ⟨e, R, r1, e1, h1, fun v H1 S hv => ?_⟩
      obtain ⟨a0, o0, xs0, rfl, ha0, hd0, _⟩ := (hv.rb S.rel h0).dict
      refine ⟨⟨a0, o0, xs0, rfl, ha0, hd0⟩, e1, S.rel, r2, e2, h2, fun u H2 S2 hu2 => ⟨e2, S2.rel, r3, _, h3, fun w H3 S3 hw => ?_⟩⟩
      have hv3 := RvR.step S3 (RvR.step S2 hv)
      have hu3 := RvR.step S3 hu2
      obtain ⟨a, o, xs, ea, ha, hdo, hkv⟩ := (hv3.rb S3.rel h4).dict
      cases ea
      obtain ⟨b, rfl, hb⟩ := key_at ((hu3.rb S3.rel h5).data (keyOf_nl h6).1 (keyOf_nl h6).2) h6
      have hw' := (hw.rb S3.rel h7).int
      subst hw'
      refine ⟨b, k0, a0, o, xs, .int z0, rfl, rfl, hc ▸ keyOk_mono hid_le hb, ha, hdo, fun x m => hc ▸ keyOk_mono hid_le (kv_keys hkv x m), ?_⟩
      rcases kv_find k0 hkv with ⟨g1, g2⟩ | ⟨v1, d1, g1, g2, g3⟩
      · rw [g1]
        refine q _ _ (S.trans (S2.trans S3)) ?_
        rw [g2]; exact .int z0
      · rw [g1]
        refine q _ _ (S.trans (S2.trans S3)) ?_
        rw [g2]; exact g3
    · cases he
  · cases he
end
end DD

namespace DD
open PySem PySem.Spec PyProof.Rows L2

/-! ### a dict of one's own is changed -/
section
variable {c : Ct} {σ : Sg} {H : Hp} {e : ES}
theorem Rel.dctUpd (R : Rel c σ H e) {i : Nat} {xs ys : List (D × D)} {a : Addr} {o : Obj} {ws : List DEnt} (h : e.sl[i]? = some (.dct xs)) (hs : σ[i]? = some (some (.ref a))) (ho : DObj o ws) (hd : DqKv c.K (hid (OO c σ e.sl) H) ws ys) : Rel c σ (upd H a (dnO a o)) (e.set i (.dct ys)) := by
  obtain ⟨a', o', vs, g1, g2, g3, g4, g5⟩ := R.slots i _ h
  rw [hs] at g1; cases g1
  have hi : i < e.sl.length := (List.getElem?_eq_some_iff.mp h).1
  have hO : OO c σ e.sl a := .inr ⟨i, .k xs, h, hs⟩
  have sub : ∀ b, OO c σ (e.sl.set i (.dct ys)) b → OO c σ e.sl b := fun b q => by
    rcases q with q | ⟨j, zs, h1, h2⟩
    · exact .inl q
    · rcases get_set2 h1 with ⟨rfl, _, _⟩ | ⟨n, h1⟩
      · rw [hs] at h2; cases h2; exact hO
      · exact .inr ⟨j, zs, h1, h2⟩
  have sm : Same (hid (OO c σ e.sl) H) (hid (OO c σ (e.sl.set i (.dct ys))) (upd H a (dnO a o))) := hid_same (fun b q => .inl (sub b q)) fun b o n h => by
    rw [upd_ne (fun z => n (by subst z; exact hO))]; exact h
  refine ⟨by rw [ES.set_sl, List.length_set]; exact R.len, R.ok, R.tpc, fun b o h z => ?_, fun j s hj => ?_, fun j k us zs b h1 h2 h3 h4 => ?_, fun τ hτ => ?_⟩
  · rw [upd_ne (fun w => by subst w; rw [g2] at h; cases h)]
    exact R.ext b o h z
  · rw [ES.set_sl] at hj ⊢
    rcases get_set2 hj with ⟨rfl, rfl, _⟩ | ⟨n, hj⟩
    · exact ⟨a, o, ws, hs, g2, upd_same, ho, dpKv_mono sm hd⟩
    · have z := R.slots j s hj
      cases s with
      | un => exact True.intro
      | d x => obtain ⟨v, k1, k2⟩ := z; exact ⟨v, k1, dp_mono sm k2⟩
      | own us =>
        obtain ⟨b, us', k1, k2, k3, k4⟩ := z
        have nb : b ≠ a := fun w => by subst w; exact n (R.inj j i (.l us) (.k xs) b hj h k1 hs)
        exact ⟨b, us', k1, k2, by rw [upd_ne nb]; exact k3, dpAll_mono sm k4⟩
      | dct us =>
        obtain ⟨b, ob, us', k1, k2, k3, k4, k5⟩ := z
        have nb : b ≠ a := fun w => by subst w; exact n (R.inj j i (.k us) (.k xs) b hj h k1 hs)
        exact ⟨b, ob, us', k1, k2, by rw [upd_ne nb]; exact k3, k4, dpKv_mono sm k5⟩
      | tape => exact z
  · rw [ES.set_sl] at h1 h2
    have lift : ∀ {j : Nat} {us : Bx}, (e.sl.set i (.dct ys))[j]? = some us.sl → ∃ us' : Bx, e.sl[j]? = some us'.sl := fun {j us} q => by
      rcases get_set2 q with ⟨rfl, _, _⟩ | ⟨_, q⟩
      · exact ⟨.k xs, h⟩
      · exact ⟨us, q⟩
    obtain ⟨_, h1⟩ := lift h1
    obtain ⟨_, h2⟩ := lift h2
    exact R.inj j k _ _ b h1 h2 h3 h4
  · obtain ⟨l, k1, k2⟩ := R.tp τ hτ
    have hp : c.tp = true := by rw [← R.tpc]; have hτ' : e.tp = some τ := hτ; rw [hτ']; rfl
    have ht : c.t ≠ a := fun w => R.ok.out c.t (R.ok.hot hp) (by rw [w]; exact g2)
    exact ⟨l, by rw [upd_ne ht]; exact k1, dp_mono sm k2⟩
end
def gSetN (i : Nat) (ix f : FX) : FS := fun e => match f e with
  | some (r, e1) => (match fz r e1 with
    | some (d, e2) => (match e2.sl[i]? with
      | some (.dct _) => (match ix e2 with
        | some (.d kd, e3) => (match e3.sl[i]? with
          | some (.dct kvs) => (match keyOf kd with
            | some k => if kvs.length < 16000000 then some (.nx, e3.set i (.dct (putKv kvs kd k d))) else none
            | none => none)
          | _ => none)
        | _ => none)
      | _ => none)
    | none => none)
  | none => none
section
variable {X : Cx} {a b : Expr} {f ix : FX} {pos : Pos}
theorem ds_setN (i : Nat) {y : Str} {py p3 : Pos} (hu : X.A.units + 1 < cLine) (hx : DE X b ix) (h : DE X a f) (hi : X.N[i]? = some y := by rfl) (hv : Vis X.env.scope y := by first | exact Or.inl rfl | exact Or.inr (Or.inl rfl) | exact Or.inr (Or.inr rfl)) (hd : (y == ("__debug__" : Str)) = false := by decide)
    (hcd : (y == ("__classdict__" : Str)) = false := by decide) (hs : swapsWithSole [.Subscript (.Name y py) b p3] a pos.line X.env = pure false := by rfl) (hw : swappedStores [.Subscript (.Name y py) b p3] a X.env = pure none := by rfl)
    (h1 : (assignEach [.Subscript (.Name y py) b p3] X.env).map (·.2) = [assign (.Subscript (.Name y py) b p3) X.env] := by rfl)
    (ha : ∀ v, assign (.Subscript (.Name y py) b p3) X.env v = (do let ov ← holding [v] (eval (.Name y py) X.env); let iv ← holding [v, ov] (eval b X.env); standAt p3; holding [v, ov, iv] (setItem ov iv v); release [v, ov, iv] []) := by intro _; rfl) :
    DS X (.Assign [.Subscript (.Name y py) b p3] a pos) (gSetN i ix f) := by
  refine ⟨fun c hc => ps_imp (ps_asg (h.pe c hc) (pg_sub (pe_var hi hv hd hcd) (hx.pe c hc) (set_n hu) ha) hs hw h1) fun Z σ H q => ?_⟩
  obtain ⟨e, R, o, e', he, q⟩ := q
  unfold gSetN at he
  cases q1 : f e with
  | none => rw [q1] at he; cases he
  | some p =>
  obtain ⟨r, e1⟩ := p
  rw [q1] at he; dsimp only at he
  cases q2 : fz r e1 with
  | none => rw [q2] at he; cases he
  | some p =>
  obtain ⟨d, e2⟩ := p
  rw [q2] at he; dsimp only at he
  split at he
  · rename_i xs0 q3
    split at he
    · rename_i kd e3 q4
      split at he
      · rename_i kvs q5
        split at he
        · rename_i k q6
          split at he
          · rename_i hl
            cases he
            refine ⟨e, R, r, e1, q1, fun v H1 S hr => ?_⟩
            obtain ⟨S2, hdq⟩ := fz_ok S.rel hr q2
            obtain ⟨pa, o0, vs0, g1, g2, g3, g4, g5⟩ := S2.rel.slots i _ q3
            refine ⟨_, g1, e2, S2.rel, _, e3, q4, fun w H2 S3 hw2 => ?_⟩
            obtain ⟨bb, rfl, hb⟩ := key_at hw2 q6
            obtain ⟨pb, o1, vs, k1, k2, k3, k4, k5⟩ := S3.rel.slots i _ q5
            rw [g1] at k1; cases k1
            refine ⟨bb, k, pa, o1, vs, rfl, rfl, hc ▸ keyOk_mono hid_le hb, k3, k4, fun x m => hc ▸ keyOk_mono hid_le (kv_keys k5 x m), by rw [kv_len k5, sizeLine_eq]; omega, fun o' D' => q σ _ ?_⟩
            exact S3.rel.dctUpd q5 g1 D' (kv_put k5 q6 hw2 (dp_mono S3.same hdq))
          · cases he
        · cases he
      · cases he
    · cases he
  · cases he
end
end DD

namespace DD
open PySem PySem.Spec PyProof.Rows L2

/-! ### a new dict of one's own -/
section
variable {c : Ct} {σ : Sg} {H : Hp} {e : ES}
theorem Rel.setDct (R : Rel c σ H e) {i : Nat} {p : Addr} {o : Obj} {xs : List DEnt} {kvs : List (D × D)} (hp : H p = none) (D0 : DObj o xs) (hk : DqKv c.K (hid (OO c σ e.sl) H) xs kvs) :
    Rel c (σ.set i (some (.ref p))) (upd H p (dnO p o)) (e.set i (.dct kvs)) := by
  have sm : Same H (upd H p (dnO p o)) := same_upd hp
  have hn : ¬ OO c σ e.sl p := fun q => R.hidden p q hp
  have h0 := R.fresh hp
  have npl : ∀ (j : Nat) (ys : Bx), e.sl[j]? = some ys.sl → σ[j]? ≠ some (some (.ref p)) := fun j ys h1 h2 => hn (.inr ⟨j, ys, h1, h2⟩)
  have sub : ∀ a, OO c (σ.set i (some (.ref p))) (e.sl.set i (.dct kvs)) a → OO c σ e.sl a ∨ H a = none := fun a q => by
    rcases q with q | ⟨j, ys, h1, h2⟩
    · exact .inl (.inl q)
    · rcases get_set2 h1 with ⟨rfl, _, hl⟩ | ⟨n, h1⟩
      · rw [List.getElem?_set_self (by rw [R.len]; exact hl)] at h2; cases h2
        exact .inr hp
      · rw [List.getElem?_set_ne (Ne.symm n)] at h2
        exact .inl (.inr ⟨j, ys, h1, h2⟩)
  have hs : Same (hid (OO c σ e.sl) H) (hid (OO c (σ.set i (some (.ref p))) (e.sl.set i (.dct kvs))) (upd H p (dnO p o))) := hid_same sub (fr_same sm)
  have R0 := R.grow sm
  refine ⟨?_, R.ok, R.tpc, R0.ext, fun j s hj => ?_, fun j k ys zs a h1 h2 h3 h4 => ?_, fun τ hτ => ?_⟩
  · rw [ES.set_sl, List.length_set, List.length_set]; exact R.len
  · rw [ES.set_sl] at hj ⊢
    rcases get_set2 hj with ⟨rfl, rfl, hl⟩ | ⟨n, hj⟩
    · exact ⟨p, o, xs, by rw [List.getElem?_set_self (by rw [R.len]; exact hl)], h0, upd_same, D0, dpKv_mono hs hk⟩
    · have z := R.slots j s hj
      have eσ : (σ.set i (some (.ref p)))[j]? = σ[j]? := by rw [List.getElem?_set_ne (Ne.symm n)]
      cases s with
      | un => exact True.intro
      | d x => obtain ⟨v, h1, h2⟩ := z; exact ⟨v, eσ.trans h1, dp_mono hs h2⟩
      | own ys => obtain ⟨a, ws, h1, h2, h3, h4⟩ := z; exact ⟨a, ws, eσ.trans h1, h2, sm _ _ h3, dpAll_mono hs h4⟩
      | dct ys => obtain ⟨a, ob, ws, h1, h2, h3, h4, h5⟩ := z; exact ⟨a, ob, ws, eσ.trans h1, h2, sm _ _ h3, h4, dpKv_mono hs h5⟩
      | tape => exact eσ.trans z
  · rw [ES.set_sl] at h1 h2
    rcases get_set2 h1 with ⟨ej, _, hl⟩ | ⟨n1, h1'⟩ <;> rcases get_set2 h2 with ⟨ek, _, hl2⟩ | ⟨n2, h2'⟩
    · exact ej.trans ek.symm
    · rw [ej, List.getElem?_set_self (by rw [R.len]; exact hl)] at h3; cases h3
      rw [List.getElem?_set_ne (Ne.symm n2)] at h4
      exact absurd h4 (npl k zs h2')
    · rw [ek, List.getElem?_set_self (by rw [R.len]; exact hl2)] at h4; cases h4
      rw [List.getElem?_set_ne (Ne.symm n1)] at h3
      exact absurd h3 (npl j ys h1')
    · rw [List.getElem?_set_ne (Ne.symm n1)] at h3
      rw [List.getElem?_set_ne (Ne.symm n2)] at h4
      exact R.inj j k ys zs a h1' h2' h3 h4
  · obtain ⟨l, h1, h2⟩ := R.tp τ hτ
    exact ⟨l, sm _ _ h1, dp_mono hs h2⟩
theorem Rel.dct_same (R : Rel c σ H e) {i : Nat} {p : Addr} {o : Obj} {kvs : List (D × D)} (hp : H p = none) : Same (hid (OO c σ e.sl) H) (hid (OO c (σ.set i (some (.ref p))) (e.set i (.dct kvs)).sl) (upd H p (dnO p o))) := by
  refine hid_same (fun a q => ?_) (fr_same (same_upd hp))
  rcases q with q | ⟨j, ys, h1, h2⟩
  · exact .inl (.inl q)
  · rcases get_set2 (show (e.sl.set i (.dct kvs))[j]? = some ys.sl from h1) with ⟨rfl, _, hl⟩ | ⟨n, h1⟩
    · rw [List.getElem?_set_self (by rw [R.len]; exact hl)] at h2; cases h2
      exact .inr hp
    · rw [List.getElem?_set_ne (Ne.symm n)] at h2
      exact .inl (.inr ⟨j, ys, h1, h2⟩)
end
/-- x = {} -/
def gNewN (i : Nat) : FS := fun e => some (.nx, e.set i (.dct []))
section
variable {X : Cx} {pos : Pos}
theorem ds_newN (i : Nat) {x : Str} {pos' pd : Pos} (hN : X.N.Nodup) (hi : X.N[i]? = some x := by rfl) (hx : Loc X.env.scope x := by first | exact Or.inl rfl | exact Or.inr rfl) (hs : swapsWith (.Dict [] [] pd) (some (.Name x pos')) pos.line X.env = pure false := by rfl)
    (hf : X.fn x = true ∨ X.env.scope.names.lookup x = some .local := by first | exact .inl rfl | exact .inr rfl | assumption) : DS X (.Assign [.Name x pos'] (.Dict [] [] pd) pos) (gNewN i) := by
  refine ⟨fun c hc => ps_imp (ps_set hN hi hx pe_newN hs hf) fun Z σ H q => ?_⟩
  obtain ⟨e, R, o, e', he, q⟩ := q
  cases he
  intro p hp
  exact q _ _ (R.setDct hp dobj_empty .nil)
end
end DD

namespace DD
open PySem PySem.Spec PyProof.Rows L2
theorem lt_u1 {a : Nat} (h : a + 64 < cLine) : a + 1 < cLine := by omega

section
variable {X : Cx} {pos : Pos}
theorem op_inN' (hu : X.A.units + 64 < cLine) : OpR X (compareOp .In) (rInN X.K fun b => b) := op_inN (by omega)
theorem op_notInN' (hu : X.A.units + 64 < cLine) : OpR X (compareOp .NotIn) (rInN X.K fun b => !b) := op_notInN (by omega)
theorem de_ixN {a b : Expr} {fa fb : FX} (hu : X.A.units + 64 < cLine) (ha : DE X a fa) (hb : DE X b fb) (hs : PlainIx b := by intro _ _; rfl) : DE X (.Subscript a b pos) (xBin gIxN fa fb) :=
  ⟨fun c hc => pe_imp (pe_ix (ix_n (by omega)) (ha.pe c hc) (hb.pe c hc) hs) fun _ _ _ q => bin_imp opd_ixN hc q⟩
/-! ### a, b = {x: c1}, [{x: c2}] -/
def gInit (i j v : Nat) (c1 c2 : D) : FS := fun e => match e.sl[v]? with
  | some (.d kd) => (match keyOf kd with
    | some _ => some (.nx, (e.set i (.dct [(kd, c1)])).set j (.own [.dict [(kd, c2)]]))
    | none => none)
  | _ => none
theorem ds_init (i j v : Nat) {x y z : Str} {e1 e2 : Expr} {w1 w2 : V} {c1 c2 : D} {px py pz pz2 pt p1 p2 p3 : Pos} {kt k2 pt2} (hu : X.A.units + 64 < cLine) (hN : X.N.Nodup) (h1 : PE X e1 (tC w1)) (h2 : PE X e2 (tC w2)) (g1 : ∀ K H, Dq K H w1 c1) (g2 : ∀ K H, Dq K H w2 c2)
    (hij : i ≠ j := by decide) (hi : X.N[i]? = some x := by rfl) (hj : X.N[j]? = some y := by rfl) (hv : X.N[v]? = some z := by rfl) (hvz : Vis X.env.scope z := by first | exact Or.inl rfl | exact Or.inr (Or.inl rfl) | exact Or.inr (Or.inr rfl))
    (hzd : (z == ("__debug__" : Str)) = false := by decide) (hzc : (z == ("__classdict__" : Str)) = false := by decide)
    (hx : X.env.scope.names.lookup x = some .local := by rfl) (hy : X.env.scope.names.lookup y = some .local := by rfl)
    (hw : swappedStores [.Tuple [.Name x px, .Name y py] kt pt] (.Tuple [.Dict [some (.Name z pz)] [e1] p1, .List [.Dict [some (.Name z pz2)] [e2] p2] p3] k2 pt2) X.env = pure (some [x, y]) := by rfl)
    (hs : swapsWithSole [.Tuple [.Name x px, .Name y py] kt pt] (.Tuple [.Dict [some (.Name z pz)] [e1] p1, .List [.Dict [some (.Name z pz2)] [e2] p2] p3] k2 pt2) pos.line X.env = pure false := by rfl) (hc : X.calm = true := by rfl)
    (hs1 : starEach [.Dict [some (.Name z pz)] [e1] p1, .List [.Dict [some (.Name z pz2)] [e2] p2] p3] X.env = (false, eval (.Dict [some (.Name z pz)] [e1] p1) X.env) :: starEach [.List [.Dict [some (.Name z pz2)] [e2] p2] p3] X.env := by rfl)
    (hs2 : starEach [.List [.Dict [some (.Name z pz2)] [e2] p2] p3] X.env = (false, eval (.List [.Dict [some (.Name z pz2)] [e2] p2] p3) X.env) :: starEach [] X.env := by rfl)
    (hs3 : starEach [.Dict [some (.Name z pz2)] [e2] p2] X.env = (false, eval (.Dict [some (.Name z pz2)] [e2] p2) X.env) :: starEach [] X.env := by rfl)
    (hsh1 : (evalEachOpt [some (.Name z pz)] X.env).zip ((evalEach [e1] X.env).map fun v => do let x ← v; standAt p1; pure x) = [(eval (.Name z pz) X.env, do let x ← eval e1 X.env; standAt p1; pure x)].map fun p => (some p.1, p.2) := by rfl)
    (hsh2 : (evalEachOpt [some (.Name z pz2)] X.env).zip ((evalEach [e2] X.env).map fun v => do let x ← v; standAt p2; pure x) = [(eval (.Name z pz2) X.env, do let x ← eval e2 X.env; standAt p2; pure x)].map fun p => (some p.1, p.2) := by rfl) :
    DS X (.Assign [.Tuple [.Name x px, .Name y py] kt pt] (.Tuple [.Dict [some (.Name z pz)] [e1] p1, .List [.Dict [some (.Name z pz2)] [e2] p2] p3] k2 pt2) pos) (gInit i j v c1 c2) := by
  refine ⟨fun c hk => ps_imp (ps_par hc hN hi hj hij hx hy (pa_cons (pe_oneN (by omega) (pe_var hv hvz hzd hzc) h1 hsh1) (pa_cons (pe_lst (pa_cons (pe_oneN (by omega) (pe_var hv hvz hzd hzc) h2 hsh2) pa_nil hs3)) pa_nil hs2) hs1) hw hs) fun Z σ H q => ?_⟩
  obtain ⟨e, R, o, e', he, q⟩ := q
  unfold gInit at he
  split at he
  · rename_i kd q1
    split at he
    · rename_i k q2
      cases he
      obtain ⟨u, s1, s2⟩ := R.slots v _ q1
      obtain ⟨b, rfl, hb⟩ := key_at s2 q2
      intro p hp
      refine ⟨.ref b, s1, b, k, rfl, ?_, ?_, fun o1 D1 => ?_⟩
      · rw [← hk]; exact keyOk_mono (same_upd hp) (keyOk_mono hid_le hb)
      · exact upd_same
      rw [upd_upd]
      have R1 := R.setDct (i := i) (kvs := [(kd, c1)]) hp D1 (.cons q2 s2 (g1 _ _) .nil)
      intro p2 hp2
      have sm1 : Same H (upd H p (dnO p o1)) := same_upd hp
      have sm2 : Same (upd H p (dnO p o1)) (upd (upd H p (dnO p o1)) p2 (dnO p2 objE)) := same_upd hp2
      refine ⟨.ref b, s1, b, k, rfl, ?_, ?_, fun o2 D2 => ?_⟩
      · rw [← hk]; exact keyOk_mono sm2 (keyOk_mono sm1 (keyOk_mono hid_le hb))
      · exact upd_same
      rw [upd_upd]
      refine ⟨by show 1 ≤ sizeLine; rw [sizeLine_eq]; omega, fun l hl => ⟨_, _, rfl, ?_⟩⟩
      have sm3 : Same (upd H p (dnO p o1)) (upd (upd H p (dnO p o1)) p2 (dnO p2 o2)) := same_upd hp2
      have R2 := R1.grow sm3
      have sm4 : Same (upd (upd H p (dnO p o1)) p2 (dnO p2 o2)) (upd (upd (upd H p (dnO p o1)) p2 (dnO p2 o2)) l (.lst [.ref p2])) := same_upd hl
      have h0l := R2.fresh hl
      have R3 := R2.plus (vs := [.ref p2]) hl upd_same sm4
      refine q _ _ (R3.setOwn R2.ok h0l upd_same (i := j) (xs := [.dict [(kd, c2)]]) (.cons (.dct (hid_of (fun w => ?_) (sm4 _ _ upd_same)) D2 (.cons q2 ?_ (g2 _ _) .nil)) .nil))
      · rcases (OO.plus p2).mp w with w | w
        · exact R1.hidden p2 w hp2
        · rw [← w] at hl; rw [upd_same] at hl; cases hl
      · have k1 := dp_mono (R.dct_same (i := i) (o := o1) (kvs := [(kd, c1)]) hp) s2
        refine dp_mono (hid_same (fun a z => ?_) (fr_same fun a o h => sm4 _ _ (sm3 _ _ h))) k1
        rcases (OO.plus a).mp z with z | z
        · exact .inl z
        · subst z
          right
          cases hh : upd H p (dnO p o1) a with
          | none => rfl
          | some o => rw [sm3 _ _ hh] at hl; cases hl
    · cases he
  · cases he
end
end DD

namespace DD
open PySem PySem.Spec PyProof.Rows L2

/-! ### one new object of any kind apart -/
def Ct.plusO (c : Ct) (p : Addr) (o : HO) : Ct := ⟨c.K, fun a => c.O a ∨ a = p, c.t, c.tp, upd c.H0 p o⟩
section
variable {c : Ct} {σ σ' : Sg} {H H' Hs : Hp} {e e' : ES} {p : Addr} {ho ho' : HO}
theorem OO.plusO {sl : List Sl} : ∀ a, OO (c.plusO p ho) σ sl a ↔ (OO c σ sl a ∨ a = p) := fun a => by
  constructor
  · rintro ((q | q) | q)
    · exact .inl (.inl q)
    · exact .inr q
    · exact .inl (.inr q)
  · rintro ((q | q) | q)
    · exact .inl (.inl q)
    · exact .inr q
    · exact .inl (.inr q)
theorem hid_plusO {sl : List Sl} : Same (hid (OO (c.plusO p ho) σ sl) H) (hid (OO c σ sl) H) := hid_same (fun a q => .inl ((OO.plusO a).mpr (.inl q))) fun _ _ _ h => h
theorem Rel.plusO (R : Rel c σ H e) (hp : H p = none) (hp' : H' p = some ho) (s : Same H H') : Rel (c.plusO p ho) σ H' e := by
  have hn : ¬ OO c σ e.sl p := fun q => R.hidden p q hp
  have h0 := R.fresh hp
  have hs : Same (hid (OO c σ e.sl) H) (hid (OO (c.plusO p ho) σ e.sl) H') := hid_same (fun a q => by
    rcases (OO.plusO a).mp q with q | q
    · exact .inl q
    · subst q; exact .inr hp) (fr_same s)
  refine ⟨R.len, ⟨fun a q => ?_, fun z => .inl (R.ok.hot z)⟩, R.tpc, fun a o h z => ?_, fun i x hx => ?_, R.inj, fun τ hτ => ?_⟩
  rotate_left
  · by_cases q : a = p
    · subst q
      have h' : upd c.H0 a ho a = some o := h
      rw [upd_same] at h'; cases h'
      exact hp'
    · have h' : upd c.H0 p ho a = some o := h
      rw [upd_ne q] at h'
      exact s a o (R.ext a o h' z)
  · have q := R.slots i x hx
    cases x with
    | un => exact True.intro
    | d x => obtain ⟨v, h1, h2⟩ := q; exact ⟨v, h1, dp_mono hs h2⟩
    | own xs =>
      obtain ⟨a, ws, h1, h2, h3, h4⟩ := q
      refine ⟨a, ws, h1, ?_, s _ _ h3, dpAll_mono hs h4⟩
      show upd c.H0 p ho a = none
      rw [upd_ne (fun z => by subst z; rw [hp] at h3; cases h3)]
      exact h2
    | dct kvs =>
      obtain ⟨a, o, ws, h1, h2, h3, h4, h5⟩ := q
      refine ⟨a, o, ws, h1, ?_, s _ _ h3, h4, dpKv_mono hs h5⟩
      show upd c.H0 p ho a = none
      rw [upd_ne (fun z => by subst z; rw [hp] at h3; cases h3)]
      exact h2
    | tape => exact q
  · obtain ⟨l, h1, h2⟩ := R.tp τ hτ
    exact ⟨l, s _ _ h1, dp_mono hs h2⟩
  · show upd c.H0 p ho a ≠ none
    by_cases z : a = p
    · subst z; rw [upd_same]; exact Option.some_ne_none _
    · rw [upd_ne z]
      rcases q with q | q
      · exact R.ok.out a q
      · exact absurd q z
theorem Rel.unplusO (R : Rel (c.plusO p ho) σ H e) (hok : c.Ok) (h0 : c.H0 p = none) : Rel c σ H e := by
  have hs : Same (hid (OO (c.plusO p ho) σ e.sl) H) (hid (OO c σ e.sl) H) := hid_plusO
  refine ⟨R.len, hok, R.tpc, fun a o h z => ?_, fun i x hx => ?_, R.inj, fun τ hτ => ?_⟩
  · refine R.ext a o ?_ z
    show upd c.H0 p ho a = some o
    rw [upd_ne (fun q => by subst q; rw [h0] at h; cases h)]
    exact h
  · have q := R.slots i x hx
    cases x with
    | un => exact True.intro
    | d x => obtain ⟨v, h1, h2⟩ := q; exact ⟨v, h1, dp_mono hs h2⟩
    | own xs =>
      obtain ⟨a, ws, h1, h2, h3, h4⟩ := q
      refine ⟨a, ws, h1, ?_, h3, dpAll_mono hs h4⟩
      have h2' : upd c.H0 p ho a = none := h2
      by_cases z : a = p
      · subst z; rw [upd_same] at h2'; cases h2'
      · rw [upd_ne z] at h2'; exact h2'
    | dct kvs =>
      obtain ⟨a, o, ws, h1, h2, h3, h4, h5⟩ := q
      refine ⟨a, o, ws, h1, ?_, h3, h4, dpKv_mono hs h5⟩
      have h2' : upd c.H0 p ho a = none := h2
      by_cases z : a = p
      · subst z; rw [upd_same] at h2'; cases h2'
      · rw [upd_ne z] at h2'; exact h2'
    | tape => exact q
  · obtain ⟨l, h1, h2⟩ := R.tp τ hτ
    exact ⟨l, h1, dp_mono hs h2⟩
/-- the object at p is another now -/
theorem Rel.replusO (R : Rel (c.plusO p ho) σ H e) (hc : c.tp = true → p ≠ c.t) : Rel (c.plusO p ho') σ (upd H p ho') e := by
  have eO : ∀ a, OO (c.plusO p ho') σ e.sl a ↔ OO (c.plusO p ho) σ e.sl a := fun a => (OO.plusO a).trans (OO.plusO a).symm
  have hs : Same (hid (OO (c.plusO p ho) σ e.sl) H) (hid (OO (c.plusO p ho') σ e.sl) (upd H p ho')) := hid_same (fun a q => .inl ((eO a).mp q)) fun a o n h => by
    rw [upd_ne (fun z => n (by subst z; exact (OO.plusO _).mpr (.inr rfl)))]
    exact h
  refine ⟨R.len, ⟨fun a q => ?_, R.ok.hot⟩, R.tpc, fun a o h z => ?_, fun j s hj => ?_, R.inj, fun τ hτ => ?_⟩
  · show upd c.H0 p ho' a ≠ none
    by_cases w : a = p
    · subst w; rw [upd_same]; exact Option.some_ne_none _
    · rw [upd_ne w]
      have := R.ok.out a q
      have h2 : upd c.H0 p ho a ≠ none := this
      rwa [upd_ne w] at h2
  · by_cases w : a = p
    · subst w
      have h' : upd c.H0 a ho' a = some o := h
      rw [upd_same] at h'; cases h'
      exact upd_same
    · rw [upd_ne w]
      have h' : upd c.H0 p ho' a = some o := h
      rw [upd_ne w] at h'
      refine R.ext a o ?_ z
      show upd c.H0 p ho a = some o
      rw [upd_ne w]; exact h'
  · have z := R.slots j s hj
    cases s with
    | un => exact True.intro
    | d x => obtain ⟨v, h1, h2⟩ := z; exact ⟨v, h1, dp_mono hs h2⟩
    | own ys =>
      obtain ⟨a, us, h1, h2, h3, h4⟩ := z
      have h2' : upd c.H0 p ho a = none := h2
      have w : a ≠ p := fun w => by subst w; rw [upd_same] at h2'; cases h2'
      rw [upd_ne w] at h2'
      exact ⟨a, us, h1, by show upd c.H0 p ho' a = none; rw [upd_ne w]; exact h2', by rw [upd_ne w]; exact h3, dpAll_mono hs h4⟩
    | dct ys =>
      obtain ⟨a, ob, us, h1, h2, h3, h4, h5⟩ := z
      have h2' : upd c.H0 p ho a = none := h2
      have w : a ≠ p := fun w => by subst w; rw [upd_same] at h2'; cases h2'
      rw [upd_ne w] at h2'
      exact ⟨a, ob, us, h1, by show upd c.H0 p ho' a = none; rw [upd_ne w]; exact h2', by rw [upd_ne w]; exact h3, h4, dpKv_mono hs h5⟩
    | tape => exact z
  · obtain ⟨l, h1, h2⟩ := R.tp τ hτ
    have ht : c.tp = true := by have := R.tpc; rw [hτ] at this; exact this.symm
    exact ⟨l, by show upd H p ho' c.t = _; rw [upd_ne (fun z => hc ht z.symm)]; exact h1, dp_mono hs h2⟩
theorem Rel.pin_lePlusO (R0 : Rel c σ Hs e) (hp : Hs p = none) (R : Rel ((c.pin σ e Hs).plusO p ho) σ' H e') : Same (hid (OO c σ e.sl) Hs) (hid (OO ((c.pin σ e Hs).plusO p ho) σ' e'.sl) H) := fun a o h => by
  obtain ⟨n, h⟩ := hid_some h
  have hne : a ≠ p := fun z => by subst z; rw [hp] at h; cases h
  have hq : ((c.pin σ e Hs).plusO p ho).H0 a = some o := by
    show upd (c.pin σ e Hs).H0 p ho a = some o
    rw [upd_ne hne]
    exact pin_of h fun q => n q.1
  refine hid_of (fun q => ?_) (R.ext a o hq fun z w => n (.inl (w ▸ R0.ok.hot z)))
  rcases q with q | ⟨j, xs, h1, h2⟩
  · rcases q with q | q
    · exact n (.inl q)
    · exact hne q
  · obtain ⟨b, vs, g1, g2, _⟩ := (R.slots j _ h1).mine
    rw [h2] at g1; cases g1
    rw [hq] at g2; cases g2
theorem Rel.unpinPlusO (R0 : Rel c σ Hs e) (R : Rel ((c.pin σ e Hs).plusO p ho) σ' H' e') (h0 : (c.pin σ e Hs).H0 p = none) (hp : H' p = some ho) : Rel (c.plusO p ho) σ' H' e' := by
  have R1 : Rel (c.pin σ e Hs) σ' H' e' := R.unplusO R0.pin.ok h0
  have R2 := R0.unpin R1
  refine ⟨R2.len, ⟨fun a q => ?_, fun z => .inl (R0.ok.hot z)⟩, R2.tpc, fun a o ha z => ?_, fun j s hj => ?_, R2.inj, fun τ hτ => R.tp τ hτ⟩
  · show upd c.H0 p ho a ≠ none
    by_cases z : a = p
    · subst z; rw [upd_same]; exact Option.some_ne_none _
    · rw [upd_ne z]
      rcases q with q | q
      · exact R0.ok.out a q
      · exact absurd q z
  · by_cases w : a = p
    · subst w
      have ha' : upd c.H0 a ho a = some o := ha
      rw [upd_same] at ha'; cases ha'; exact hp
    · have ha' : upd c.H0 p ho a = some o := ha
      rw [upd_ne w] at ha'
      exact R2.ext a o ha' z
  · have z := R.slots j s hj
    cases s with
    | un => exact True.intro
    | d x => exact z
    | own ys =>
      obtain ⟨a, ws, g1, g2, g3, g4⟩ := z
      refine ⟨a, ws, g1, ?_, g3, g4⟩
      obtain ⟨a', ws', k1, k2, _, _⟩ := R2.slots j _ hj
      rw [g1] at k1; cases k1
      show upd c.H0 p ho a = none
      have g2' : upd (c.pin σ e Hs).H0 p ho a = none := g2
      by_cases w : a = p
      · subst w; rw [upd_same] at g2'; cases g2'
      · rw [upd_ne w]; exact k2
    | dct ys =>
      obtain ⟨a, ob, ws, g1, g2, g3, g4, g5⟩ := z
      refine ⟨a, ob, ws, g1, ?_, g3, g4, g5⟩
      obtain ⟨a', ob', ws', k1, k2, _⟩ := R2.slots j _ hj
      rw [g1] at k1; cases k1
      show upd c.H0 p ho a = none
      have g2' : upd (c.pin σ e Hs).H0 p ho a = none := g2
      by_cases w : a = p
      · subst w; rw [upd_same] at g2'; cases g2'
      · rw [upd_ne w]; exact k2
    | tape => exact z
end
end DD

namespace DD
open PySem PySem.Spec PyProof.Rows L2

/-! ### dict comprehensions of any number of clauses, at the machine -/
section
variable {prog : Program} {w : World} {A : Around} {R : Result → Shared → Prop} {s : Shared} {kx vx t0 i0 t1 i1 : Expr} {ifs0 ifs1 : List Expr} {scope : Scope} {pos : Pos} {it acc : Value} {Da : Addr} {env : Env} {gens : List Comprehension} {k : Nat}
/-- a turn of a clause that has one behind it -/
theorem dloop_more (hg : gens[k]? = some ⟨t0, i0, ifs0, 0⟩) (hg1 : gens[k + 1]? = some ⟨t1, i1, ifs1, 0⟩) (hs : ∀ x, foldedSetIterable i1 env x = pure x) (I : Nat → Shared → Prop)
    (turn : ∀ n s, I n s → wpAny (model prog w) A (pyNext it) (fun r s₁ => match r with
      | none => R (.ok .next) s₁
      | some v => wpAny (model prog w) A (letOwnedTupleGo t0 it v) (fun _ sa => wpAny (model prog w) A (assign t0 env v) (fun _ sb =>
          wpAny (model prog w) A (testsOf ifs0 env) (fun ok sc =>
            if ok = true then wpAny (model prog w) A (eval i1 env) (fun x sd => wpAny (model prog w) A (pyIter x) (fun it1 se =>
              codeAny (model prog w) A (.compStart (.DictComp kx vx gens scope pos) (k + 1) it1 acc env) (fun r s' => match r with
                | .ok _ => ∃ m, m < n ∧ I m s'
                | .error _ => False) se) (fun _ _ => False) sd) (fun _ _ => False) sc
            else ∃ m, m < n ∧ I m sc) (fun _ _ => False) sb) (fun _ _ => False) sa) (fun _ _ => False) s₁) (fun _ _ => False) s)
    (n : Nat) (h : I n s) :
    codeAny (model prog w) A (.compLoop (.DictComp kx vx gens scope pos) k it acc env) R s := by
  refine codeAny_loop rfl I (fun n s hI => ?_) n h
  show wpAny _ A ((compTurn (.DictComp kx vx gens scope pos) k it acc env).onRaise _) _ _ s
  refine wpAny_noted ?_
  have nof : ∀ {α : Type} {E : Value → Shared → Prop} {t : Sem α} {Q Q' : α → Shared → Prop} {s : Shared}, wpAny (model prog w) A t Q (fun _ _ => False) s → (∀ a s, Q a s → Q' a s) → wpAny (model prog w) A t Q' E s := fun h f => wpAny_mono h f fun _ _ z => z.elim
  unfold compTurn
  dsimp only
  rw [hg, hg1]
  refine wpAny_bind (wpAny_standAt (wpAny_bind (nof (turn n s hI) fun r s₁ h₁ => ?_)))
  cases r with
  | none => exact wpAny_pure h₁
  | some v =>
    refine wpAny_bind (nof h₁ fun _ sa ha => ?_)
    refine wpAny_bind (nof ha fun _ sb hb => wpAny_bind (nof hb fun ok sc hc => ?_))
    cases ok with
    | false => exact wpAny_pure ⟨rfl, hc⟩
    | true =>
      refine wpAny_bind (nof hc fun x sd hd => ?_)
      refine wpAny_bind (wpAny_standAt (wpAny_bind (wpAny_of_eq (hs x) (wpAny_bind (wpAny_holding (nof hd fun it1 se he => ?_))))))
      refine wpAny_bind (wpAny_runOwn ?_)
      rw [Around.mark_none]
      refine codeAny_mono he fun r s' hr => ?_
      cases r with
      | ok f =>
        first
          | exact wpAny_pure ⟨rfl, hr⟩
          | exact wpAny_bind (wpAny_pure (wpAny_pure ⟨rfl, hr⟩))
      | error e => exact hr.elim
/-- a turn of the last clause -/
theorem dloop_last (hg : gens[k]? = some ⟨t0, i0, ifs0, 0⟩) (hg1 : gens[k + 1]? = none) (I : Nat → Shared → Prop)
    (turn : ∀ n s, I n s → wpAny (model prog w) A (pyNext it) (fun r s₁ => match r with
      | none => R (.ok .next) s₁
      | some v => wpAny (model prog w) A (letOwnedTupleGo t0 it v) (fun _ sa => wpAny (model prog w) A (assign t0 env v) (fun _ sb =>
          wpAny (model prog w) A (testsOf ifs0 env) (fun ok sc =>
            if ok = true then wpAny (model prog w) A (eval kx env) (fun kv sd => wpAny (model prog w) A (eval vx env) (fun vv se =>
              wpAny (model prog w) A (dictSet Da kv vv) (fun _ sf => ∃ m, m < n ∧ I m sf) (fun _ _ => False) se) (fun _ _ => False) sd) (fun _ _ => False) sc
            else ∃ m, m < n ∧ I m sc) (fun _ _ => False) sb) (fun _ _ => False) sa) (fun _ _ => False) s₁) (fun _ _ => False) s)
    (n : Nat) (h : I n s) :
    codeAny (model prog w) A (.compLoop (.DictComp kx vx gens scope pos) k it (.ref Da) env) R s := by
  refine codeAny_loop rfl I (fun n s hI => ?_) n h
  show wpAny _ A ((compTurn (.DictComp kx vx gens scope pos) k it (.ref Da) env).onRaise _) _ _ s
  refine wpAny_noted ?_
  have nof : ∀ {α : Type} {E : Value → Shared → Prop} {t : Sem α} {Q Q' : α → Shared → Prop} {s : Shared}, wpAny (model prog w) A t Q (fun _ _ => False) s → (∀ a s, Q a s → Q' a s) → wpAny (model prog w) A t Q' E s := fun h f => wpAny_mono h f fun _ _ z => z.elim
  unfold compTurn
  dsimp only
  rw [hg, hg1]
  refine wpAny_bind (wpAny_standAt (wpAny_bind (nof (turn n s hI) fun r s₁ h₁ => ?_)))
  cases r with
  | none => exact wpAny_pure h₁
  | some v =>
    refine wpAny_bind (nof h₁ fun _ sa ha => ?_)
    refine wpAny_bind (nof ha fun _ sb hb => wpAny_bind (nof hb fun ok sc hc => ?_))
    cases ok with
    | false => exact wpAny_pure ⟨rfl, hc⟩
    | true =>
      exact wpAny_bind (wpAny_bind (nof hc fun kv sd hd => wpAny_bind (wpAny_holding (nof hd fun vv se he => wpAny_bind (wpAny_standAt (wpAny_holding (nof he fun _ sf hf => wpAny_pure ⟨rfl, hf⟩)))))))
/-- a later clause's start -/
theorem dstart_more (hg : gens[k]? = some ⟨t0, i0, ifs0, 0⟩) (h0 : codeAny (model prog w) A (.compLoop (.DictComp kx vx gens scope pos) k it acc env) R s)
    (h : wpAny (model prog w) A (pyIter it) (fun it' s' => codeAny (model prog w) A (.compLoop (.DictComp kx vx gens scope pos) k it' acc env) R s')
      (notedBy (model prog w) A env fun x s' => R (.error x) s') s) :
    codeAny (model prog w) A (.compStart (.DictComp kx vx gens scope pos) k it acc env) R s := by
  refine codeAny_of_tree ?_
  show wpAny _ _ ((compStart (.DictComp kx vx gens scope pos) k it acc env).onRaise _) _ _ s
  refine wpAny_notedAt ?_
  have hc : (clausesOf (.DictComp kx vx gens scope pos))[k]? = some ⟨t0, i0, ifs0, 0⟩ := hg
  unfold compStart
  rw [hc]
  show wpAny _ _ (ask >>= _) _ _ s
  refine wpAny_bind (wpAny_askSetting (wpAny_ite ?_))
  split
  · first
      | exact wpAny_bind (wpAny_pure (wpAny_pure (And.intro rfl h0)))
      | exact wpAny_pure (And.intro rfl h0)
  · refine wpAny_bind (wpAny_rule ?_)
    show wpAny _ _ (standAt i0.pos >>= _) _ _ s
    exact wpAny_bind (wpAny_standAt (wpAny_bind (wpAny_mono h (fun it' s' h' => wpAny_pure (And.intro rfl h')) fun _ _ x => x)))
end
end DD

namespace DD
open PySem PySem.Spec PyProof.Rows L2

section
variable {X0 : Cx} {s3 : Shared} {H3 : Hp} {scope scope' : Scope} {ce : Env} {fp : List Addr} {kx vx : Expr} {gens : List Comprehension} {pos : Pos} {vs : List Nat}
def dclPost (X : Cx) (pins : List (Addr × Obj)) (σ : L2.St) (vs : List Nat) (Nx : Hp → Prop) (s' : Shared) : Prop :=
  ∃ σ' H', Inv X pins σ' H' s' ∧ (wipe σ vs).length = σ'.length ∧ (∀ (j : Nat) v, (wipe σ vs)[j]? = some (some v) → σ'[j]? = some (some v)) ∧ Nx H'
/-- the emit, or the next clause's start and loop -/
structure PClD (X : Cx) (kx vx : Expr) (gens : List Comprehension) (scope' : Scope) (pos : Pos) (vs : List Nat) (k : Nat) (t : TCl) : Prop where
  last : gens[k]? = none → ∀ (D : Addr) (pins : List (Addr × Obj)) (s : Shared) (σ : L2.St) (H : Hp) (Nx : Hp → Prop), Inv X pins σ H s → t D σ H Nx →
    wpAny (model X.prog X.w) X.A (eval kx X.env) (fun kv sd => wpAny (model X.prog X.w) X.A (eval vx X.env) (fun vv se => wpAny (model X.prog X.w) X.A (dictSet D kv vv) (fun _ sf => dclPost X pins σ vs Nx sf) (fun _ _ => False) se) (fun _ _ => False) sd) (fun _ _ => False) s
  more : ∀ g, gens[k]? = some g → ∀ (D : Addr) (pins : List (Addr × Obj)) (s : Shared) (σ : L2.St) (H : Hp) (Nx : Hp → Prop), Inv X pins σ H s → t D σ H Nx →
    wpAny (model X.prog X.w) X.A (eval g.iter X.env) (fun x sd => wpAny (model X.prog X.w) X.A (pyIter x) (fun it1 se => codeAny (model X.prog X.w) X.A (.compStart (.DictComp kx vx gens scope' pos) k it1 (.ref D) X.env) (fun r s' => match r with
      | .ok _ => dclPost X pins σ vs Nx s'
      | .error _ => False) se) (fun _ _ => False) sd) (fun _ _ => False) s
def tEmitN (K : PySem.W.Frag) (tk tv : TE) : TCl := fun D σ H Nx => tk σ H fun y H4 => tv σ H4 fun z H5 => rSetN K (.ref D) y z H5 Nx
theorem set_nD {X : Cx} (hu : X.A.units < cLine) {pins : List (Addr × Obj)} {s : Shared} {σ : L2.St} {H : Hp} {Da : Addr} {y z : V} {u r : Value} {Q : Hp → Prop} {E : Value → Shared → Prop} {Qf : Unit → Shared → Prop} (I : Inv X pins σ H s) (ry : RelV y u) (rv : RelV z r)
    (q : rSetN X.K (.ref Da) y z H Q) (h : ∀ s' H', Inv X pins σ H' s' → Q H' → Qf () s') : wpAny (model X.prog X.w) X.A (dictSet Da u r) Qf E s := by
  obtain ⟨b, k, a, ob, xs, e, rfl, hb, ha, hd, hk, hlt, q⟩ := q
  cases e
  cases (show u = Value.ref b from ry)
  obtain ⟨h2, h1, hl, ys, hp, dd, hyl⟩ := dn_of I ha hd hk
  have hz : ys.length ≤ sizeLine := by omega
  refine wpAny_dictSet_heap (knd := knd X) (hsz := hz) hu (hb.is I) dd fun h' dd' hs => ?_
  obtain ⟨o', es, ep, hq, h3, h4, h5, h6, h7⟩ := dd'
  have D' : DObj o' (putN xs k b z) := by
    refine ⟨by have := putN_len xs k b z; omega, h3, es, ep, _, h4, put_rel hp rv, h5, ?_⟩
    rw [ent_keys (put_rel (k := k) (b := b) hp rv)]; exact h7
  have I2 : Inv X pins σ (upd H Da (dnO Da o')) { s with heap := h', toks := s.toks + (knd X).draws k } := I.write (x := Da) (e := Da) (by rw [ha]; exact True.intro) (.inl rfl) (fun b q hb z => (hs.2 b hb).trans z) ⟨o', hq⟩ (dn_ok hq h2)
  exact h _ _ I2 (q o' D')
theorem dpcl_emit {k : Nat} {tk tv : TE} (hu : X0.A.units < cLine) (hg : gens[k]? = none) (hk : PE (X0.blk s3 H3 scope ce fp) kx tk) (hv : PE (X0.blk s3 H3 scope ce fp) vx tv) : PClD (X0.blk s3 H3 scope ce fp) kx vx gens scope' pos vs k (tEmitN X0.K tk tv) where
  last := fun _ D pins s σ H Nx I q => by
    refine thnF (hk.run pins s σ H _ I q) fun z s1 ⟨yv, H1, I1, r1, q1⟩ => ?_
    refine thnF (hv.run pins s1 σ H1 _ I1 q1) fun z2 s2 ⟨yw, H2, I2, r2, q2⟩ => ?_
    exact set_nD (X := X0.blk s3 H3 scope ce fp) hu I2 r1 r2 q2 fun s' H' I' nx => ⟨σ, _, I', wipe_length _ _, fun j v e => (wipe_some e).1, nx⟩
  more := fun g h => by rw [hg] at h; cases h
/-- a clause's loop in the block, its iterator at hand -/
theorem dclause_loop {k : Nat} {tg1 iter1 : Expr} {ifs1 : List Expr} {g1 : TG} {tt1 : TT} {T : TCl} {vs1 : List Nat} (hc : X0.calm = true) (hg : gens[k]? = some ⟨tg1, iter1, ifs1, 0⟩)
    (pg1 : PG (X0.blk s3 H3 scope ce fp) tg1 g1) (pt1 : PTs (X0.blk s3 H3 scope ce fp) ifs1 tt1)
    (hT : PClD (X0.blk s3 H3 scope ce fp) kx vx gens scope' pos vs1 (k + 1) T) (hn : ∀ g, gens[k + 1]? = some g → g.is_async = 0 ∧ ∀ env x, foldedSetIterable g.iter env x = pure x)
    {D it1 : Addr} {pins : List (Addr × Obj)} {fq : List Addr} {tn1 : Nat → Heap → Prop} {J1 : It} {σ8 : L2.St} {s11 : Shared} {Hx : Hp} (T1 : Turn X0.prog X0.w X0.K tg1 J1 fq it1 tn1)
    (stat : ∀ (H' : Hp) (σ' : L2.St) (s' : Shared), Inv (X0.blk s3 H3 scope ce fp) pins σ' H' s' → (∀ b ∈ fq, H' b = none) → ∀ b ∈ fq, FpOk (X0.blk s3 H3 scope ce fp) pins H' b)
    {W1 : Nat → Nat → Hp → Prop} {m1 : Nat} {Ns : Hp → Prop} (w1 : W1 0 m1 Hx)
    (turn1 : ∀ j k H, W1 j k H → (J1.stop j H ∧ Ns H) ∨ (J1.go j H ∧ ∃ Nx1 : Hp → Prop, (∀ H', Nx1 H' → ∃ k', k' < k ∧ W1 (j + 1) k' H') ∧ ∀ x H', J1.yld j H x H' → g1 x (wipe σ8 vs1) H' fun σa Ha => wipe σa vs1 = wipe σ8 vs1 ∧ tt1 σa Ha fun b Hb =>
      if b = true then T D σa Hb Nx1 else Nx1 Hb))
    (I11 : Inv (X0.blk s3 H3 scope ce fp) pins (wipe σ8 vs1) Hx s11) (st11 : tn1 0 s11.heap) (n11 : ∀ b ∈ fq, Hx b = none) {R : Result → Shared → Prop}
    (hR : ∀ s' H', Inv (X0.blk s3 H3 scope ce fp) pins (wipe σ8 vs1) H' s' → Ns H' → R (.ok .next) s') :
    codeAny (model X0.prog X0.w) X0.A (.compLoop (.DictComp kx vx gens scope' pos) k (.ref it1) (.ref D) ce) R s11 := by
  have key : ∀ n sa, (∃ j Ha, Inv (X0.blk s3 H3 scope ce fp) pins (wipe σ8 vs1) Ha sa ∧ tn1 j sa.heap ∧ (∀ b ∈ fq, Ha b = none) ∧ W1 j n Ha) →
      wpAny (model X0.prog X0.w) X0.A (pyNext (.ref it1)) (fun r s₁ => match r with
        | none => R (.ok .next) s₁
        | some v => wpAny (model X0.prog X0.w) X0.A (letOwnedTupleGo tg1 (.ref it1) v) (fun _ sb => wpAny (model X0.prog X0.w) X0.A (assign tg1 ce v) (fun _ sc =>
            wpAny (model X0.prog X0.w) X0.A (testsOf ifs1 ce) (fun ok sd => ∃ (σb : L2.St) (Hb : Hp) (p2 : List (Addr × Obj)) (Nx1 : Hp → Prop), Inv (X0.blk s3 H3 scope ce fp) p2 σb Hb sd ∧ (if ok = true then T D σb Hb Nx1 else Nx1 Hb) ∧
              ∀ s', dclPost (X0.blk s3 H3 scope ce fp) p2 σb vs1 Nx1 s' → ∃ m, m < n ∧ ∃ j Ha, Inv (X0.blk s3 H3 scope ce fp) pins (wipe σ8 vs1) Ha s' ∧ tn1 j s'.heap ∧ (∀ b ∈ fq, Ha b = none) ∧ W1 j m Ha) (fun _ _ => False) sc) (fun _ _ => False) sb) (fun _ _ => False) s₁) (fun _ _ => False) sa := by
    rintro n sa ⟨j, Ha, Ia, sta, na, wa⟩
    rcases turn1 j n Ha wa with ⟨stop1, nx1⟩ | ⟨go1, Nx1, hNx1, step1⟩
    · refine thnF (T1.done (X0.blk s3 H3 scope ce fp) rfl rfl rfl hc j _ sa (wipe σ8 vs1) Ha (fun _ _ => False) Ia (stat _ _ _ Ia na) sta stop1) fun r sb ⟨hr, Ib⟩ => ?_
      subst hr
      exact hR sb Ha Ib nx1
    · refine thnF (T1.item (X0.blk s3 H3 scope ce fp) rfl rfl rfl hc j _ sa (wipe σ8 vs1) Ha (fun _ _ => False) Ia (stat _ _ _ Ia na) sta go1) fun r sb ⟨u1, hr, hb⟩ => ?_
      subst hr
      refine thnF hb fun _ sc ⟨xc, Hc, Ic, rc, yc, stc, nc⟩ => ?_
      have Ip := Ic.pinned (stat _ _ _ Ic nc) (T1.obj _ _ stc)
      refine thnF (pg1.run _ sc (wipe σ8 vs1) Hc xc u1 _ Ip rc (step1 xc Hc yc)) fun _ sd ⟨σd, Hd, Id, hwd, qd⟩ => ?_
      refine thnF (pt1.run _ sd σd Hd _ Id qd) fun b1 se ⟨He, Ie, qe⟩ => ?_
      refine ⟨σd, He, _, Nx1, Ie, qe, fun s' ⟨σ', H', I', hl, hk, nx⟩ => ?_⟩
      obtain ⟨m', hm, w'⟩ := hNx1 H' nx
      have pin' : ∀ b ∈ fq, ∀ o, sc.heap.get? b = some o → s'.heap.get? b = some o ∧ H' b = none := fun b hb o e =>
        let z := I'.pin (b, o) (List.mem_append_right _ (List.mem_append_right _ (mem_pinsAt hb e)))
        ⟨z.1, z.2.1⟩
      rw [hwd] at hl hk
      refine ⟨m', hm, j + 1, H', (I'.unpinned (pins := pins)).weak hl hk, T1.keep _ _ _ stc fun b hb o e => (pin' b hb o e).1, fun b hb => ?_, w'⟩
      obtain ⟨o, e, _⟩ := T1.obj _ _ stc b hb
      exact (pin' b hb o e).2
  have start : ∃ j Ha, Inv (X0.blk s3 H3 scope ce fp) pins (wipe σ8 vs1) Ha s11 ∧ tn1 j s11.heap ∧ (∀ b ∈ fq, Ha b = none) ∧ W1 j m1 Ha := ⟨0, Hx, I11, st11, n11, w1⟩
  cases hg1 : gens[k + 1]? with
  | none =>
    refine dloop_last hg hg1 (fun n sa => ∃ j Ha, Inv (X0.blk s3 H3 scope ce fp) pins (wipe σ8 vs1) Ha sa ∧ tn1 j sa.heap ∧ (∀ b ∈ fq, Ha b = none) ∧ W1 j n Ha) (fun n sa ha => ?_) m1 start
    refine thnF (key n sa ha) fun r s1 h1 => ?_
    cases r with
    | none => exact h1
    | some v =>
      refine thnF h1 fun _ sb hb => thnF hb fun _ sc hc => thnF hc fun ok sd ⟨σb, Hb, p2, Nx1, Ib, qb, fin⟩ => ?_
      cases ok with
      | false => exact fin _ ⟨σb, Hb, Ib, wipe_length _ _, fun j v e => (wipe_some e).1, qb⟩
      | true => exact thnF (hT.last hg1 D p2 sd σb Hb Nx1 Ib qb) fun x se he => thnF he fun _ sf hf => thnF hf fun _ sg hg => fin sg hg
  | some g' =>
    obtain ⟨ha, hs'⟩ := hn g' hg1
    obtain ⟨t', i', f', a'⟩ := g'
    dsimp only at ha
    subst ha
    refine dloop_more hg hg1 (hs' ce) (fun n sa => ∃ j Ha, Inv (X0.blk s3 H3 scope ce fp) pins (wipe σ8 vs1) Ha sa ∧ tn1 j sa.heap ∧ (∀ b ∈ fq, Ha b = none) ∧ W1 j n Ha) (fun n sa ha => ?_) m1 start
    refine thnF (key n sa ha) fun r s1 h1 => ?_
    cases r with
    | none => exact h1
    | some v =>
      refine thnF h1 fun _ sb hb => thnF hb fun _ sc hc => thnF hc fun ok sd ⟨σb, Hb, p2, Nx1, Ib, qb, fin⟩ => ?_
      cases ok with
      | false => exact fin _ ⟨σb, Hb, Ib, wipe_length _ _, fun j v e => (wipe_some e).1, qb⟩
      | true =>
        refine thnF (hT.more _ hg1 D p2 sd σb Hb Nx1 Ib qb) fun x se he => thnF he fun it2 sf hf => codeAny_mono hf fun r s' hr => ?_
        cases r with
        | ok f => exact fin s' hr
        | error e => exact hr
theorem dpcl_clause {k : Nat} {tg1 iter1 : Expr} {ifs1 : List Expr} {wi1 : TI} {g1 : TG} {tt1 : TT} {T : TCl} {vs1 : List Nat} (hc : X0.calm = true) (hv : ∀ i ∈ vs1, i ∈ vs) (hg : gens[k]? = some ⟨tg1, iter1, ifs1, 0⟩)
    (pi1 : PI (X0.blk s3 H3 scope ce fp) tg1 iter1 wi1) (pg1 : PG (X0.blk s3 H3 scope ce fp) tg1 g1) (pt1 : PTs (X0.blk s3 H3 scope ce fp) ifs1 tt1)
    (hT : PClD (X0.blk s3 H3 scope ce fp) kx vx gens scope' pos vs1 (k + 1) T) (hn : ∀ g, gens[k + 1]? = some g → g.is_async = 0 ∧ ∀ env x, foldedSetIterable g.iter env x = pure x) :
    PClD (X0.blk s3 H3 scope ce fp) kx vx gens scope' pos vs k (tClause wi1 g1 tt1 T vs1) where
  last := fun h => by rw [hg] at h; cases h
  more := fun g h D pins sa σ8 Ha Nx Ia qa => by
    rw [hg] at h; cases h
    refine thnF (pi1.run pins sa σ8 Ha _ Ia qa) fun xv sb hx => thnF hx fun itv sc hcc => ?_
    obtain ⟨it1, fq, tn1, J1, Hc, e1, Ic, T1, stc, fc, W1, ⟨m1, w1⟩, turn1⟩ := hcc
    subst e1
    have loop1 := dclause_loop (R := fun r s' => match r with
          | .ok _ => dclPost (X0.blk s3 H3 scope ce fp) pins σ8 vs Nx s'
          | .error _ => False) hc hg pg1 pt1 hT hn T1 (fun H' σ' s' _ hn b hb => ⟨hn b hb, (fc b hb).2⟩) w1 turn1 (Ic.weak (wipe_length _ _) (fun j v e => (wipe_some e).1)) stc (fun b hb => (fc b hb).1) (fun s' H' I' nx => ⟨wipe σ8 vs1, H', I', by rw [wipe_length, wipe_length], fun j v e => by
        obtain ⟨e1, e2⟩ := wipe_some e
        rw [wipe_out fun z => e2 (hv j z)]
        exact e1, nx⟩)
    exact dstart_more hg loop1 (T1.self X0.A 0 _ _ _ stc loop1)
end
end DD

namespace DD
open PySem PySem.Spec PyProof.Rows L2

/-! ### the whole comprehension -/
section
variable {X : Cx}
def tDcN (wi : TI) (g : TG) (tt : TT) (T : TCl) (vs : List Nat) : TE := fun σ H Q => wi σ H fun J H1 => ∀ D, H1 D = none → ∃ W : Nat → Nat → Hp → Prop, (∃ m, W 0 m (upd H1 D (dnO D objE))) ∧ ∀ i m H, W i m H →
  (J.stop i H ∧ Q (.ref D) H) ∨ (J.go i H ∧ ∃ Nx : Hp → Prop, (∀ H', Nx H' → ∃ m', m' < m ∧ W (i + 1) m' H') ∧ ∀ x H', J.yld i H x H' → g x (wipe σ vs) H' fun σ2 H2 => wipe σ2 vs = wipe σ vs ∧ tt σ2 H2 fun b H3 =>
    if b = true then T D σ2 H3 Nx else Nx H3)
theorem dcN_core {pins : List (Addr × Obj)} {s : Shared} {σ : L2.St} {H : Hp} {Q : VK} {kx vx tg iter : Expr} {ifs : List Expr} {rest : List Comprehension} {scope : Scope} {own : List (Str × Nat)} {pos pos' : Pos} {wi : TI} {g : TG} {tt : TT} {T : TCl} {use : Option (Value → Sem Unit)} {Qf : Value → Shared → Prop}
    (hc : X.calm = true) (hN : X.N.Nodup) (I : Inv X pins σ H s) (hi : PI X tg iter wi) (ok : BlkOk X.N X.env.scope scope own)
    (hg : ∀ (s : Shared) (H : Hp) (C : Addr) (cl : List (Str × Addr)) (fp : List Addr), PG (X.blk s H scope (compEnvC scope cl C X.env) fp) tg g)
    (ht : ∀ (s : Shared) (H : Hp) (C : Addr) (cl : List (Str × Addr)) (fp : List Addr), PTs (X.blk s H scope (compEnvC scope cl C X.env) fp) ifs tt)
    (hT : ∀ (s : Shared) (H : Hp) (C : Addr) (cl : List (Str × Addr)) (fp : List Addr), PClD (X.blk s H scope (compEnvC scope cl C X.env) fp) kx vx (⟨tg, iter, ifs, 0⟩ :: rest) scope pos (own.map (·.2)) 1 T)
    (hn : ∀ g, rest[0]? = some g → g.is_async = 0 ∧ ∀ env x, foldedSetIterable g.iter env x = pure x) (hs : ∀ x, foldedSetIterable iter X.env x = pure x)
    (h : tDcN wi g tt T (own.map (·.2)) σ H Q)
    (hRR : ∀ D C s' m H', Inv X pins σ H' s' → Q (.ref D) H' → s'.heap.Ns C m → FpOk X pins H' C → compPost (model X.prog X.w) X.A X.xe use Qf (.ref D) C (.ok .next) s') :
    wpAny (model X.prog X.w) X.A (comprehension (.DictComp kx vx (⟨tg, iter, ifs, 0⟩ :: rest) scope pos) scope X.env pos' newDict false (eval iter X.env) use) Qf X.xe s := by
  have cells : ∀ y ∈ scope.names, y.2 = .free → ∃ c, X.env.cells.lookup y.1 = some c := fun y hy e => (ok.free y hy e).elim (fun k => I.ok.has _ (.inl k)) fun k => I.ok.has _ (.inr k)
  refine wpAny_comprehension_free rfl hs (closure_ok cells) ok.kind (fun y hy e => (ok.uniq y hy).trans (congrArg some e)) (thn (hi.run pins s σ H _ I h) fun xv sa hx => thn hx fun itv sb hb => ?_)
  obtain ⟨it, fq, tn, J, Hb, rfl, Ib, Tw, stb, fb, q⟩ := hb
  refine wpAny_newObj_type (newEnv_comp ?_)
  obtain ⟨D, eD⟩ : ∃ D, sb.heap.objs.size = D := ⟨_, rfl⟩
  have hD : Hb D = none := Ib.hok.fresh (Nat.le_of_eq eD)
  obtain ⟨W, ⟨m0, w0⟩, turn⟩ := q D hD
  obtain ⟨sc, esc⟩ : ∃ sc : Shared, { sb with heap := sb.heap.push { cls := .type "dict", data := .dict #[] } } = sc := ⟨_, rfl⟩
  have hsc : sc.heap = sb.heap.push { cls := .type "dict", data := .dict #[] } := by rw [← esc]
  have Ic : Inv X pins σ (upd Hb D (dnO D objE)) sc := by
    rw [← esc]
    subst eD
    exact Ib.laid (o := dnO sb.heap.objs.size objE) (t' := sb.toks) (fun b o e => Heap.get?_push_of_some _ e) (Nat.le_refl _) (dn_ok (Heap.get?_push_size _ rfl) (big_ne Ib))
  have fc : ∀ b ∈ fq, FpOk X pins (upd Hb D (dnO D objE)) b ∧ b < sc.heap.objs.size := fun b hb => by
    obtain ⟨o, e, _⟩ := Tw.obj _ _ stb b hb
    have hlt := Heap.lt_size e
    refine ⟨⟨?_, (fb b hb).2⟩, ?_⟩
    · rw [upd_ne (fun z => by rw [z, ← eD] at hlt; exact Nat.lt_irrefl _ hlt)]
      exact (fb b hb).1
    · rw [hsc, Heap.size_push]; exact Nat.lt_succ_of_lt hlt
  have stc : tn 0 sc.heap := Tw.keep _ _ _ stb fun b _ o e => by rw [hsc]; exact Heap.get?_push_of_some _ e
  have Id := block_start Ic ok hN fc
  obtain ⟨cl, ecl⟩ : ∃ cl, cellsFrom (sc.heap.objs.size + 1) scope.names (cloFrom X.env.cells scope.names []) = cl := ⟨_, rfl⟩
  rw [ecl] at Id
  rw [esc, ecl, eD]
  show codeAny _ _ (.compStart (.DictComp kx vx (⟨tg, iter, ifs, 0⟩ :: rest) scope pos) 0 (.ref it) (.ref D) (compEnvC scope cl sc.heap.objs.size X.env)) (compPost (model X.prog X.w) X.A X.xe use Qf (.ref D) sc.heap.objs.size) { sc with heap := pushCells (sc.heap.push { cls := .type "dict", data := .dict #[] }) scope.names }
  have loop := dclause_loop (R := compPost (model X.prog X.w) X.A X.xe use Qf (.ref D) sc.heap.objs.size) (Ns := Q (.ref D)) hc (gens := ⟨tg, iter, ifs, 0⟩ :: rest) (k := 0) rfl (hg sc (upd Hb D (dnO D objE)) sc.heap.objs.size cl fq) (ht sc (upd Hb D (dnO D objE)) sc.heap.objs.size cl fq)
    (hT sc (upd Hb D (dnO D objE)) sc.heap.objs.size cl fq) (fun g' e => hn g' e) (pins := []) Tw
    (fun H' σ' s' I' hn b hb => ⟨hn b hb, (I'.ok.exf b hb).1, I'.ok.exfs b hb, .inl hb, fun x c e => (I'.ok.exf b hb).2 x c e, fun p hp => absurd (show p ∈ ([] : List (Addr × Obj)) ++ [] from hp) (by simp)⟩)
    w0 turn Id (Tw.keep _ _ _ stc fun b _ o e => pushCells_keeps _ _ _ _ (Heap.get?_push_of_some _ e)) (fun b hb => (fc b hb).1.1) fun s' H' I' qq => by
      have Ix : Inv X pins σ H' s' := Ic.call' (ch := fq) I'.os I'.base I'.hok I'.bare fun b hb => ⟨(fc b hb).1.2.2.2.1, (fc b hb).1.2.1, (fc b hb).1.2.2.2.2.1, (fc b hb).1.2.2.2.2.2⟩
      have nC : H' sc.heap.objs.size = none := I'.free
      obtain ⟨m, hm, _⟩ := I'.loc
      exact hRR D sc.heap.objs.size s' m H' Ix qq hm (Ic.fpOk (Nat.le_refl _) nC)
  exact codeAny_compStart_dict loop (Tw.self X.A 0 _ _ _ (Tw.keep _ _ _ stc fun b _ o e => pushCells_keeps _ _ _ _ (Heap.get?_push_of_some _ e)) loop)
theorem pe_dcN {kx vx tg iter : Expr} {ifs : List Expr} {rest : List Comprehension} {scope : Scope} {own : List (Str × Nat)} {pos : Pos} {wi : TI} {g : TG} {tt : TT} {T : TCl} (hc : X.calm = true) (hN : X.N.Nodup) (hi : PI X tg iter wi) (ok : BlkOk X.N X.env.scope scope own)
    (hg : ∀ (s : Shared) (H : Hp) (C : Addr) (cl : List (Str × Addr)) (fp : List Addr), PG (X.blk s H scope (compEnvC scope cl C X.env) fp) tg g)
    (ht : ∀ (s : Shared) (H : Hp) (C : Addr) (cl : List (Str × Addr)) (fp : List Addr), PTs (X.blk s H scope (compEnvC scope cl C X.env) fp) ifs tt)
    (hT : ∀ (s : Shared) (H : Hp) (C : Addr) (cl : List (Str × Addr)) (fp : List Addr), PClD (X.blk s H scope (compEnvC scope cl C X.env) fp) kx vx (⟨tg, iter, ifs, 0⟩ :: rest) scope pos (own.map (·.2)) 1 T)
    (hn : ∀ g, rest[0]? = some g → g.is_async = 0 ∧ ∀ env x, foldedSetIterable g.iter env x = pure x) (hs : ∀ x, foldedSetIterable iter X.env x = pure x) :
    PE X (.DictComp kx vx (⟨tg, iter, ifs, 0⟩ :: rest) scope pos) (tDcN wi g tt T (own.map (·.2))) := by
  refine ⟨fun pins s σ H Q I h => ?_⟩
  rw [arm_eval_DictComp]
  refine dcN_core hc hN I hi ok hg ht hT hn hs h fun D C s' m H' I' q hm f => ⟨m, hm, fun h'' sb => ?_⟩
  obtain ⟨f0, f1, f2, f3, f4, f5⟩ := f
  exact ⟨.ref D, H', I'.turned (t' := s'.toks) (fun b o hb e => (sb.2 b hb).trans e) f0 f1 f3 f4 f5, rfl, q⟩
theorem ps_setDcN {i : Nat} {y : Str} {py : Pos} {kx vx tg iter : Expr} {ifs : List Expr} {rest : List Comprehension} {scope : Scope} {own : List (Str × Nat)} {pos spos : Pos} {wi : TI} {g : TG} {tt : TT} {T : TCl} (hc : X.calm = true) (hN : X.N.Nodup) (hy : X.N[i]? = some y) (hyl : X.env.scope.names.lookup y = some .local)
    (hsw : swapsWith (.DictComp kx vx (⟨tg, iter, ifs, 0⟩ :: rest) scope pos) (some (.Name y py)) spos.line X.env = pure true) (hi : PI X tg iter wi) (ok : BlkOk X.N X.env.scope scope own)
    (hg : ∀ (s : Shared) (H : Hp) (C : Addr) (cl : List (Str × Addr)) (fp : List Addr), PG (X.blk s H scope (compEnvC scope cl C X.env) fp) tg g)
    (ht : ∀ (s : Shared) (H : Hp) (C : Addr) (cl : List (Str × Addr)) (fp : List Addr), PTs (X.blk s H scope (compEnvC scope cl C X.env) fp) ifs tt)
    (hT : ∀ (s : Shared) (H : Hp) (C : Addr) (cl : List (Str × Addr)) (fp : List Addr), PClD (X.blk s H scope (compEnvC scope cl C X.env) fp) kx vx (⟨tg, iter, ifs, 0⟩ :: rest) scope pos (own.map (·.2)) 1 T)
    (hn : ∀ g, rest[0]? = some g → g.is_async = 0 ∧ ∀ env x, foldedSetIterable g.iter env x = pure x) (hs : ∀ x, foldedSetIterable iter X.env x = pure x) :
    PS X (.Assign [.Name y py] (.DictComp kx vx (⟨tg, iter, ifs, 0⟩ :: rest) scope pos) spos) (tAsg (tDcN wi g tt T (own.map (·.2))) (gName i)) := by
  refine ⟨fun pins s σ H Z I h => ?_⟩
  rw [exec_Assign_Name_used _ _ _ _ hsw]
  refine wpAny_bind (wpAny_standAt (wpAny_bind ?_))
  show wpAny _ X.A (do let _ ← comprehension (.DictComp kx vx (⟨tg, iter, ifs, 0⟩ :: rest) scope pos) scope X.env (firstIterPos (⟨tg, iter, ifs, 0⟩ :: rest) pos) newDict false (eval iter X.env) (some (assign (.Name y py) X.env))) _ _ s
  have h : tDcN wi g tt T (own.map (·.2)) σ H (fun x H1 => gName i x σ H1 Z.nx) := h
  refine wpAny_bind (thn (dcN_core (Qf := fun _ s' => SP X pins Z .next s') hc hN I hi ok hg ht hT hn hs h fun La C s' m H' I' q hm f => ?_) fun _ s' hq => wpAny_pure (wpAny_pure hq))
  show wpAny _ _ (assign (.Name y py) X.env (.ref La)) _ _ _
  refine wpAny_assign_Name (store_ok2 (v := V.ref La) I' hN hy (.inl hyl) rfl (fun s2 I2 ⟨a, sb, ha⟩ => ?_) (.inr hyl))
  obtain ⟨f0, f1, f2, f3, f4, f5⟩ := f
  have haC : C ≠ a := by
    rcases ha with z | z
    · rw [z]; exact f1
    · exact fun e => f4 y a z e.symm
  refine ⟨m, hm.sameBut sb haC, fun h3 sb3 => ⟨_, H', I2.turned (t' := s2.toks) (fun b o hb e => (sb3.2 b hb).trans e) f0 f1 f3 f4 f5, q⟩⟩
theorem sw_trueD {kx vx : Expr} {gs : List Comprehension} {scope : Scope} {pos py : Pos} {y : Str} {l : Nat} {env : Env} (hk : env.scope.kind = .function) (hy : env.scope.names.lookup y = some .local) (hl : (py.line == pos.line) = true)
    (ha : (scope.names.any fun (n, k) => n == y && (k == .local || k == .cell)) = false) : swapsWith (.DictComp kx vx gs scope pos) (some (.Name y py)) l env = pure true := by
  have ky : env.kindOf y = some .local := hy
  have hb : env.blockKind = .function := by unfold Env.blockKind; rw [hk]; rfl
  unfold swapsWith
  simp only [hb, ky, ha, Expr.pos, hl]
  rfl
end
end DD

namespace DD
open PySem PySem.Spec PyProof.Rows L2

/-! ### dict comprehensions, over data -/
abbrev FKv := List (D × D) → ES → Option (List (D × D) × ES)
def kEmit (fk fv : FX) : FKv := fun acc e => match fk e with
  | some (.d kd, e1) => (match keyOf kd with
    | some k => (match fv e1 with
      | some (r, e2) => (match fz r e2 with
        | some (y, e3) => if acc.length < 16000000 then some (putKv acc kd k y, e3) else none
        | none => none)
      | none => none)
    | none => none)
  | _ => none
def kLoop (vs : List Nat) (gt : FG) (ft : FT) (body : FKv) : List D → FKv
  | [], acc, e => some (acc, e)
  | d :: ds, acc, e => match gt d e with
    | some e2 => (match ft e2 with
      | some (true, e3) => (match body acc e3 with
        | some (acc', e4) => kLoop vs gt ft body ds acc' (wipeE vs e4)
        | none => none)
      | some (false, e3) => kLoop vs gt ft body ds acc (wipeE vs e3)
      | none => none)
    | none => none
def kFor (vs : List Nat) (fi : FL) (gt : FG) (ft : FT) (body : FKv) : FKv := fun acc e => match fi e with
  | some (ds, e1) => kLoop vs gt ft body ds acc (wipeE vs e1)
  | none => none
def xKComp (vs : List Nat) (fi : FL) (gt : FG) (ft : FT) (body : FKv) : FX := fun e => match fi e with
  | some (ds, e1) => (match kLoop vs gt ft body ds [] (wipeE vs e1) with
    | some (xs, e2) => some (.d (.dict xs), restoreE vs e1 e2)
    | none => none)
  | none => none
/-- all that a turn leaves -/
structure KSt (c : Ct) (Da : Addr) (ws : Obj) (σ : Sg) (H : Hp) (e : ES) (acc : List (D × D)) : Prop where
  rel : Rel (c.plusO Da (dnO Da ws)) σ H e
  at_ : H Da = some (dnO Da ws)
  all : ∃ xs, DObj ws xs ∧ DqKv c.K (hid (OO (c.plusO Da (dnO Da ws)) σ e.sl) H) xs acc
/-- .. and what has stood stands -/
structure KStp (c : Ct) (Da : Addr) (ws : Obj) (σ : Sg) (H : Hp) (e : ES) (ws' : Obj) (σ' : Sg) (H' : Hp) (e' : ES) : Prop where
  same : Same (hid (OO (c.plusO Da (dnO Da ws)) σ e.sl) H) (hid (OO (c.plusO Da (dnO Da ws')) σ' e'.sl) H')
  shr : ∀ a, OO (c.plusO Da (dnO Da ws')) σ' e'.sl a → OO (c.plusO Da (dnO Da ws)) σ e.sl a
def tKl (c : Ct) (vs : List Nat) (body : FKv) : TCl := fun Da σ H Nx => (c.tp = true → Da ≠ c.t) ∧ ∃ e acc ws, KSt c Da ws σ H e acc ∧ ∃ acc' e', body acc e = some (acc', e') ∧
  ∀ σ' H' ws', wipe σ' vs = wipe σ vs → KSt c Da ws' σ' H' e' acc' → KStp c Da ws σ H e ws' σ' H' e' → Nx H'
def tKlx (K : PySem.W.Frag) (vs : List Nat) (body : FKv) : TCl := fun Da σ H Nx => ∃ c : Ct, c.K = K ∧ tKl c vs body Da σ H Nx
structure DKl (X : Cx) (kx vx : Expr) (gens : List Comprehension) (scope : Scope) (pos : Pos) (vs vs1 : List Nat) (k : Nat) (body : FKv) : Prop where
  pcl : PClD X kx vx gens scope pos vs k (tKlx X.K vs1 body)
theorem dpcl_imp {X : Cx} {kx vx : Expr} {gens : List Comprehension} {scope : Scope} {pos : Pos} {vs : List Nat} {k : Nat} {t t' : TCl} (h : PClD X kx vx gens scope pos vs k t) (i : ∀ Da σ H Nx, t' Da σ H Nx → t Da σ H Nx) : PClD X kx vx gens scope pos vs k t' :=
  ⟨fun hg Da pins s σ H Nx I q => h.last hg Da pins s σ H Nx I (i Da σ H Nx q), fun g hg Da pins s σ H Nx I q => h.more g hg Da pins s σ H Nx I (i Da σ H Nx q)⟩
theorem KStp.refl {c : Ct} {Da : Addr} {ws : Obj} {σ : Sg} {H : Hp} {e : ES} : KStp c Da ws σ H e ws σ H e := ⟨fun _ _ h => h, fun _ h => h⟩
theorem KStp.trans {c : Ct} {Da : Addr} {ws ws1 ws2 : Obj} {σ σ1 σ2 : Sg} {H H1 H2 : Hp} {e e1 e2 : ES} (a : KStp c Da ws σ H e ws1 σ1 H1 e1) (b : KStp c Da ws1 σ1 H1 e1 ws2 σ2 H2 e2) : KStp c Da ws σ H e ws2 σ2 H2 e2 :=
  ⟨fun x o h => b.same x o (a.same x o h), fun x h => a.shr x (b.shr x h)⟩
theorem KStp.of {c : Ct} {Da : Addr} {ws : Obj} {σ : Sg} {H H' : Hp} {e e' : ES} (S : Stp (c.plusO Da (dnO Da ws)) σ e H e' H') : KStp c Da ws σ H e ws σ H' e' := ⟨S.same, S.shr⟩
/-- a step within the turn -/
theorem KSt.step {c : Ct} {Da : Addr} {ws : Obj} {σ : Sg} {H H' : Hp} {e e' : ES} {acc : List (D × D)} (hd : c.tp = true → Da ≠ c.t) (C : KSt c Da ws σ H e acc) (S : Stp (c.plusO Da (dnO Da ws)) σ e H e' H') : KSt c Da ws σ H' e' acc :=
  ⟨S.rel, S.rel.ext Da _ upd_same hd, (let ⟨xs, h1, h2⟩ := C.all; ⟨xs, h1, dpKv_mono S.same h2⟩)⟩
theorem KSt.wipe {c : Ct} {Da : Addr} {ws : Obj} {σ : Sg} {H : Hp} {e : ES} {acc : List (D × D)} (C : KSt c Da ws σ H e acc) (vs : List Nat) : KSt c Da ws (L2.wipe σ vs) H (wipeE vs e) acc ∧ KStp c Da ws σ H e ws (L2.wipe σ vs) H (wipeE vs e) := by
  obtain ⟨Rk, sk⟩ := C.rel.wipe vs
  have sm : Same (hid (OO (c.plusO Da (dnO Da ws)) σ e.sl) H) (hid (OO (c.plusO Da (dnO Da ws)) (L2.wipe σ vs) (wipeE vs e).sl) H) := hid_same (fun a z => .inl (sk a z)) fun _ _ _ h => h
  exact ⟨⟨Rk, C.at_, (let ⟨xs, h1, h2⟩ := C.all; ⟨xs, h1, dpKv_mono sm h2⟩)⟩, ⟨sm, sk⟩⟩
section
variable {X : Cx} {kx vx tg iter : Expr} {ifs : List Expr} {fi : FL} {gt : FG} {ft : FT} {fk fv : FX} {is vs : List Nat} {body : FKv}
theorem kemit_core {K : PySem.W.Frag} {Da : Addr} {σ : Sg} {H : Hp} {Nx : Hp → Prop} {vs : List Nat} (q : tKlx K vs (kEmit fk fv) Da σ H Nx) : tEmitN K (tDx K fk) (tDx K fv) Da σ H Nx := by
  obtain ⟨c, rfl, hd, e, acc, ws, C, acc', e', he, q⟩ := q
  unfold kEmit at he
  split at he
  · rename_i kd e1 q1
    split at he
    · rename_i k qk
      split at he
      · rename_i r e2 q2
        split at he
        · rename_i y e3 q3
          split at he
          · rename_i hz
            cases he
            refine ⟨c.plusO Da (dnO Da ws), rfl, e, C.rel, _, e1, q1, fun v H1 S hr => ?_⟩
            have C1 := C.step hd S
            obtain ⟨b, rfl, hb⟩ := key_at hr qk
            refine ⟨c.plusO Da (dnO Da ws), rfl, e1, C1.rel, r, e2, q2, fun v H2 S2 hr2 => ?_⟩
            obtain ⟨S3, hy⟩ := fz_ok S2.rel hr2 q3
            have S4 := S2.trans S3
            have C4 := C1.step hd S4
            obtain ⟨xs, D0, kv⟩ := C4.all
            have hb4 := keyOk_mono S4.same hb
            have hr4 := dp_mono S4.same hr
            refine ⟨b, k, Da, ws, xs, rfl, rfl, keyOk_mono hid_le hb4, C4.at_, D0, fun x m => keyOk_mono hid_le (kv_keys kv x m), by rw [kv_len kv, sizeLine_eq]; omega, fun o' D' => ?_⟩
            have Rn := C4.rel.replusO (ho' := dnO Da o') hd
            have sm : Same (hid (OO (c.plusO Da (dnO Da ws)) σ e'.sl) H2) (hid (OO (c.plusO Da (dnO Da o')) σ e'.sl) (upd H2 Da (dnO Da o'))) := hid_same (fun a z => .inl ((OO.plusO a).mpr ((OO.plusO a).mp z))) fun a o n h => by
              rw [upd_ne (fun z => n (by subst z; exact (OO.plusO _).mpr (.inr rfl)))]
              exact h
            exact q σ _ o' rfl ⟨Rn, upd_same, _, D', dpKv_mono sm (kv_put kv qk hr4 hy)⟩ (KStp.trans (KStp.of (S.trans S4)) ⟨sm, fun a z => (OO.plusO a).mpr ((OO.plusO a).mp z)⟩)
          · cases he
        · cases he
      · cases he
    · cases he
  · cases he
theorem kclause_core {K : PySem.W.Frag} {Da : Addr} {σ : Sg} {H : Hp} {Nx : Hp → Prop} {vs1 vs2 : List Nat} (hi : ∀ i ∈ is, i ∈ vs1) (h2 : ∀ i ∈ vs2, i ∈ vs1) (q : tKlx K vs1 (kFor vs1 fi gt ft body) Da σ H Nx) :
    tClause (tIx K fi) (tGx K is gt) (tTx K ft) (tKlx K vs2 body) vs1 Da σ H Nx := by
  obtain ⟨c, rfl, hd, e, acc, ws, C, accF, eF, he, q⟩ := q
  unfold kFor at he
  cases q1 : fi e with
  | none => rw [q1] at he; cases he
  | some p =>
  obtain ⟨ds, e1⟩ := p
  rw [q1] at he; dsimp only at he
  refine ⟨c.plusO Da (dnO Da ws), rfl, e, C.rel, ds, e1, q1, fun J H1 S wk => ?_⟩
  have C1 := C.step hd S
  obtain ⟨C2, P2⟩ := C1.wipe vs1
  refine ⟨fun i m Hi => ∃ ei ai wi, i ≤ ds.length ∧ m = ds.length - i ∧ KSt c Da wi (wipe σ vs1) Hi ei ai ∧ KStp c Da ws σ H1 e1 wi (wipe σ vs1) Hi ei ∧ kLoop vs1 gt ft body (ds.drop i) ai ei = some (accF, eF),
    ⟨_, wipeE vs1 e1, acc, ws, Nat.zero_le _, rfl, C2, P2, he⟩, ?_⟩
  rintro i m Hi ⟨ei, ai, wi, hil, rfl, Ci, Pi, hl⟩
  have w := wk (OO (c.plusO Da (dnO Da wi)) (wipe σ vs1) ei.sl) Hi Pi.same Ci.rel.hidden
  by_cases hlt : i < ds.length
  · obtain ⟨d, hdd⟩ : ∃ d, ds[i]? = some d := ⟨ds[i], by simp [hlt]⟩
    obtain ⟨g1, g2⟩ := w.2 i d hdd
    refine .inr ⟨g1, fun Hn => ∃ en an wn, KSt c Da wn (wipe σ vs1) Hn en an ∧ KStp c Da ws σ H1 e1 wn (wipe σ vs1) Hn en ∧ kLoop vs1 gt ft body (ds.drop (i + 1)) an en = some (accF, eF),
      fun Hn ⟨en, an, wn, b1, b2, b3⟩ => ⟨ds.length - (i + 1), by omega, en, an, wn, hlt, rfl, b1, b2, b3⟩, fun x Hx y => ?_⟩
    obtain ⟨sm, hx⟩ := g2 x Hx y
    have hdr : ds.drop i = d :: ds.drop (i + 1) := by
      rw [List.drop_eq_getElem_cons hlt]
      congr 1
      exact (List.getElem?_eq_some_iff.mp hdd).2
    rw [hdr] at hl
    unfold kLoop at hl
    have S0 : Stp (c.plusO Da (dnO Da wi)) (wipe σ vs1) ei Hi ei Hx := Stp.grow Ci.rel sm
    have C0 := Ci.step hd S0
    cases q2 : gt d ei with
    | none => rw [q2] at hl; cases hl
    | some ej =>
    rw [q2] at hl; dsimp only at hl
    refine ⟨c.plusO Da (dnO Da wi), rfl, ei, d, C0.rel, hx, ej, q2, fun σ2 R2 k2 => ?_⟩
    have ew : wipe σ2 vs1 = wipe σ vs1 := (wipe_eq hi (σ := wipe σ vs1) (by rw [wipe2]; exact k2.at_) (by rw [wipe2]; exact k2.len)).trans wipe2
    refine ⟨ew, ?_⟩
    have s2 : Same (hid (OO (c.plusO Da (dnO Da wi)) (wipe σ vs1) ei.sl) Hx) (hid (OO (c.plusO Da (dnO Da wi)) σ2 ej.sl) Hx) := hid_same (fun a z => .inl (k2.sh a z)) fun _ _ _ h => h
    have C3 : KSt c Da wi σ2 Hx ej ai := ⟨R2, C0.at_, (let ⟨xs, h1, h2⟩ := C0.all; ⟨xs, h1, dpKv_mono s2 h2⟩)⟩
    have P3 : KStp c Da ws σ H1 e1 wi σ2 Hx ej := Pi.trans ((KStp.of S0).trans ⟨s2, k2.sh⟩)
    cases q3 : ft ej with
    | none => rw [q3] at hl; cases hl
    | some p =>
    obtain ⟨b, ek⟩ := p
    rw [q3] at hl
    refine ⟨c.plusO Da (dnO Da wi), rfl, ej, R2, b, ek, q3, fun H3 S3 => ?_⟩
    have C4 := C3.step hd S3
    have P4 := P3.trans (KStp.of S3)
    cases b with
    | false =>
      dsimp only at hl
      refine iteF ?_
      obtain ⟨C5, P5⟩ := C4.wipe vs1
      rw [ew] at C5 P5
      exact ⟨wipeE vs1 ek, ai, wi, C5, P4.trans P5, hl⟩
    | true =>
      dsimp only at hl
      refine iteT ?_
      cases q4 : body ai ek with
      | none => rw [q4] at hl; cases hl
      | some p =>
      obtain ⟨a5, e5⟩ := p
      rw [q4] at hl; dsimp only at hl
      refine ⟨c, rfl, hd, ek, ai, wi, C4, a5, e5, q4, fun σ' H' ws' hw C6 P6 => ?_⟩
      obtain ⟨C7, P7⟩ := C6.wipe vs1
      have ew2 : wipe σ' vs1 = wipe σ vs1 := (wipe_wipe h2 hw).trans ew
      rw [ew2] at C7 P7
      exact ⟨wipeE vs1 e5, a5, ws', C7, (P4.trans P6).trans P7, hl⟩
  · have ei' : i = ds.length := by omega
    subst ei'
    rw [List.drop_length] at hl
    cases hl
    exact .inl ⟨w.1, q _ _ wi wipe2 Ci ((KStp.of S).trans Pi)⟩
end
end DD

namespace DD
open PySem PySem.Spec PyProof.Rows L2

section
variable {X : Cx} {kx vx tg iter : Expr} {ifs : List Expr} {fi : FL} {gt : FG} {ft : FT} {fk fv : FX} {is vs : List Nat} {body : FKv}
theorem kcomp_core {K : PySem.W.Frag} {c : Ct} {σ : Sg} {H : Hp} {Q : VK} {vs2 : List Nat} (hc : c.K = K) (hi : ∀ i ∈ is, i ∈ vs) (h2v : ∀ i ∈ vs2, i ∈ vs) (q : tD c (xKComp vs fi gt ft body) σ H Q) : tDcN (tI c fi) (tGx K is gt) (tTx K ft) (tKlx K vs2 body) vs σ H Q := by
  subst hc
  obtain ⟨e, R, rv, e', he, q⟩ := q
  unfold xKComp at he
  cases h1 : fi e with
  | none => rw [h1] at he; cases he
  | some p =>
  obtain ⟨ds, e1⟩ := p
  rw [h1] at he; dsimp only at he
  cases h2 : kLoop vs gt ft body ds [] (wipeE vs e1) with
  | none => rw [h2] at he; cases he
  | some p =>
  obtain ⟨xs', e2⟩ := p
  rw [h2] at he
  cases he
  refine ⟨e, R, ds, e1, h1, fun J H1 S wk Da hD => ?_⟩
  have R1 := S.rel
  have Rp := R1.pin
  have hDt : (c.pin σ e1 H1).tp = true → Da ≠ (c.pin σ e1 H1).t := fun z w => by
    subst w; exact R1.hidden _ (.inl (R1.ok.hot z)) hD
  obtain ⟨Rw, sw⟩ := Rp.wipe vs
  have toC : ∀ {ws : Obj} {σ' : Sg} {sl : List Sl} {a : Addr}, OO c σ' sl a → OO ((c.pin σ e1 H1).plusO Da (dnO Da ws)) σ' sl a := fun {ws σ' sl a} z => by
    rcases z with z | z
    · exact .inl (.inl z)
    · exact .inr z
  have ofC : ∀ {ws : Obj} {σ' : Sg} {sl : List Sl} {a : Addr}, OO ((c.pin σ e1 H1).plusO Da (dnO Da ws)) σ' sl a → OO c σ' sl a ∨ a = Da := fun {ws σ' sl a} z => by
    rcases z with (z | z) | z
    · exact .inl (.inl z)
    · exact .inr z
    · exact .inl (.inr z)
  have notD : ∀ {ws : Obj} {σ' : Sg} {H' : Hp} {ek : ES}, Rel ((c.pin σ e1 H1).plusO Da (dnO Da ws)) σ' H' ek → ¬ OO c σ' ek.sl Da := fun {ws σ' H' ek} Rk z => by
    rcases z with z | ⟨j, ys, g1, g2⟩
    · exact R1.hidden Da (.inl z) hD
    · obtain ⟨b, us, k1, k2, _⟩ := (Rk.slots j _ g1).mine
      rw [g2] at k1; cases k1
      have k2' : upd (c.pin σ e1 H1).H0 Da (dnO Da ws) Da = none := k2
      rw [upd_same] at k2'; cases k2'
  have shC : ∀ {ws ws' : Obj} {σa σb : Sg} {Ha Hb : Hp} {ea eb : ES}, Rel ((c.pin σ e1 H1).plusO Da (dnO Da ws')) σb Hb eb → KStp (c.pin σ e1 H1) Da ws σa Ha ea ws' σb Hb eb → (∀ a, OO c σa ea.sl a → OO c σ e1.sl a) → ∀ a, OO c σb eb.sl a → OO c σ e1.sl a := fun Rb P h a z => by
    rcases ofC (P.shr a (toC z)) with y | y
    · exact h a y
    · subst y; exact absurd z (notD Rb)
  have start : KSt (c.pin σ e1 H1) Da objE (wipe σ vs) (upd H1 Da (dnO Da objE)) (wipeE vs e1) [] := ⟨Rw.plusO hD upd_same (same_upd hD), upd_same, [], dobj_empty, .nil⟩
  refine ⟨fun i m H => ∃ ei acc ws, i ≤ ds.length ∧ m = ds.length - i ∧ KSt (c.pin σ e1 H1) Da ws (wipe σ vs) H ei acc ∧ (∀ a, OO c (wipe σ vs) ei.sl a → OO c σ e1.sl a) ∧ kLoop vs gt ft body (ds.drop i) acc ei = some (xs', e2),
    ⟨_, wipeE vs e1, [], objE, Nat.zero_le _, rfl, start, sw, h2⟩, ?_⟩
  rintro i m H ⟨ei, acc, ws, hil, rfl, Ci, shi, hl⟩
  have w := wk (OO ((c.pin σ e1 H1).plusO Da (dnO Da ws)) (wipe σ vs) ei.sl) H (R1.pin_lePlusO hD Ci.rel) Ci.rel.hidden
  by_cases hlt : i < ds.length
  · obtain ⟨d, hd⟩ : ∃ d, ds[i]? = some d := ⟨ds[i], by simp [hlt]⟩
    obtain ⟨w1, w2⟩ := w.2 i d hd
    refine .inr ⟨w1, fun H' => ∃ ei acc ws, KSt (c.pin σ e1 H1) Da ws (wipe σ vs) H' ei acc ∧ (∀ a, OO c (wipe σ vs) ei.sl a → OO c σ e1.sl a) ∧ kLoop vs gt ft body (ds.drop (i + 1)) acc ei = some (xs', e2),
      fun H' ⟨ei, acc, ws, a1, a2, a3⟩ => ⟨ds.length - (i + 1), by omega, ei, acc, ws, hlt, rfl, a1, a2, a3⟩, fun x H'' y => ?_⟩
    obtain ⟨sm, hx⟩ := w2 x H'' y
    have hdr : ds.drop i = d :: ds.drop (i + 1) := by
      rw [List.drop_eq_getElem_cons hlt]
      congr 1
      exact (List.getElem?_eq_some_iff.mp hd).2
    rw [hdr] at hl
    unfold kLoop at hl
    have S0 : Stp ((c.pin σ e1 H1).plusO Da (dnO Da ws)) (wipe σ vs) ei H ei H'' := Stp.grow Ci.rel sm
    have C0 := Ci.step hDt S0
    cases q2 : gt d ei with
    | none => rw [q2] at hl; cases hl
    | some ej =>
    rw [q2] at hl; dsimp only at hl
    refine ⟨(c.pin σ e1 H1).plusO Da (dnO Da ws), rfl, ei, d, C0.rel, hx, ej, q2, fun σ2 R2 k2 => ?_⟩
    have ew : wipe σ2 vs = wipe σ vs := wipe_eq hi k2.at_ k2.len
    refine ⟨ew, ?_⟩
    have s2 : Same (hid (OO ((c.pin σ e1 H1).plusO Da (dnO Da ws)) (wipe σ vs) ei.sl) H'') (hid (OO ((c.pin σ e1 H1).plusO Da (dnO Da ws)) σ2 ej.sl) H'') := hid_same (fun a z => .inl (k2.sh a z)) fun _ _ _ h => h
    have C3 : KSt (c.pin σ e1 H1) Da ws σ2 H'' ej acc := ⟨R2, C0.at_, (let ⟨xs, h1, h2⟩ := C0.all; ⟨xs, h1, dpKv_mono s2 h2⟩)⟩
    have P3 : KStp (c.pin σ e1 H1) Da ws (wipe σ vs) H ei ws σ2 H'' ej := (KStp.of S0).trans ⟨s2, k2.sh⟩
    cases q3 : ft ej with
    | none => rw [q3] at hl; cases hl
    | some p =>
    obtain ⟨b, ek⟩ := p
    rw [q3] at hl
    refine ⟨(c.pin σ e1 H1).plusO Da (dnO Da ws), rfl, ej, R2, b, ek, q3, fun H3 S3 => ?_⟩
    have C4 := C3.step hDt S3
    have P4 := P3.trans (KStp.of S3)
    cases b with
    | false =>
      dsimp only at hl
      refine iteF ?_
      obtain ⟨C5, P5⟩ := C4.wipe vs
      rw [ew] at C5 P5
      exact ⟨wipeE vs ek, acc, ws, C5, shC C5.rel (P4.trans P5) shi, hl⟩
    | true =>
      dsimp only at hl
      refine iteT ?_
      cases q4 : body acc ek with
      | none => rw [q4] at hl; cases hl
      | some p =>
      obtain ⟨a5, e5⟩ := p
      rw [q4] at hl; dsimp only at hl
      refine ⟨c.pin σ e1 H1, rfl, hDt, ek, acc, ws, C4, a5, e5, q4, fun σ' H' ws' hw C6 P6 => ?_⟩
      obtain ⟨C7, P7⟩ := C6.wipe vs
      have ew2 : wipe σ' vs = wipe σ vs := (wipe_wipe h2v hw).trans ew
      rw [ew2] at C7 P7
      exact ⟨wipeE vs e5, a5, ws', C7, shC C7.rel ((P4.trans P6).trans P7) shi, hl⟩
  · have ei' : i = ds.length := by omega
    subst ei'
    rw [List.drop_length] at hl
    cases hl
    refine .inl ⟨w.1, ?_⟩
    have h0 : (c.pin σ e1 H1).H0 Da = none := Rp.fresh hD
    have Rc := R1.unpinPlusO Ci.rel h0 Ci.at_
    obtain ⟨Rf, sf⟩ := Rc.resl (σ' := σ) (sl' := restoreSl e1.sl e2.sl vs) (by
      rw [restoreSl_len, ← Ci.rel.len, wipe_length]) fun j s hj => by
        rcases restoreSl_get hj with z | ⟨z1, z2⟩ | ⟨z1, x, z2, z3⟩
        · exact .inl z
        · exact .inr (.inl ⟨z2, (wipe_out z1).symm⟩)
        · obtain ⟨v', g1, g2⟩ := R1.slots j _ z2
          exact .inr (.inr ⟨x, v', z3, g1, dp_mono (R1.pin_lePlusO hD Ci.rel) g2⟩)
    obtain ⟨us, D0, kv⟩ := Ci.all
    have shf : ∀ a, OO c σ (restoreE vs e1 e2).sl a → OO c σ e.sl a := fun a z => by
      rcases (OO.plusO a).mp (sf a ((OO.plusO a).mpr (.inl z))) with y | y
      · exact S.shr a (shi a y)
      · subst y
        rcases z with z | ⟨j, ys, g1, g2⟩
        · exact absurd hD (R1.hidden a (.inl z))
        · obtain ⟨b, us, k1, k2, _⟩ := (Rf.slots j _ g1).mine
          rw [g2] at k1; cases k1
          have k2' : upd c.H0 a (dnO a ws) a = none := k2
          rw [upd_same] at k2'; cases k2'
    refine q _ H ⟨Rf.unplusO R.ok (R1.fresh hD), shf, fun a o n h => ?_⟩ ?_
    · have h1 := S.fr a o n h
      have n1 : ¬ OO c σ e1.sl a := fun z => n (S.shr a z)
      exact (hid_some (R1.pin_lePlusO hD Ci.rel a o (hid_of n1 h1))).2
    · refine Dq.dct (hid_of (fun z => ?_) Ci.at_) D0 (dpKv_mono (hid_same (fun a z => .inl (sf a ((OO.plusO a).mpr (.inl z)))) fun _ _ _ h => h) kv)
      rcases z with z | ⟨i, ys, h1, h2⟩
      · exact R.ok.out Da z (R1.fresh hD)
      · obtain ⟨a, ws, g1, g2, g3⟩ := (Rf.slots i _ h1).mine
        rw [h2] at g1; cases g1
        have g2' : upd c.H0 Da (dnO Da _) Da = none := g2
        rw [upd_same] at g2'; cases g2'
theorem dkl_emit {X0 : Cx} {s3 : Shared} {H3 : Hp} {scope scope' : Scope} {ce : Env} {fp : List Addr} {gens : List Comprehension} {pos : Pos} {k : Nat} (hu : X0.A.units + 64 < cLine) (hk : DE (X0.blk s3 H3 scope ce fp) kx fk) (hv : DE (X0.blk s3 H3 scope ce fp) vx fv) (hg : gens[k]? = none := by rfl) :
    DKl (X0.blk s3 H3 scope ce fp) kx vx gens scope' pos vs [] k (kEmit fk fv) :=
  ⟨dpcl_imp (dpcl_emit (tk := tDx X0.K fk) (tv := tDx X0.K fv) (by omega) hg ⟨fun pins s' σ H' Q I ⟨c', h1, h2⟩ => (hk.pe c' h1).run pins s' σ H' Q I h2⟩ ⟨fun pins s' σ H' Q I ⟨c', h1, h2⟩ => (hv.pe c' h1).run pins s' σ H' Q I h2⟩) fun _ _ _ _ q => kemit_core q⟩
theorem dkl_for {X0 : Cx} {s3 : Shared} {H3 : Hp} {scope scope' : Scope} {ce : Env} {fp : List Addr} {gens : List Comprehension} {pos : Pos} {k : Nat} {tg1 iter1 : Expr} {ifs1 : List Expr} {vs1 vs2 : List Nat}
    (pi1 : DI (X0.blk s3 H3 scope ce fp) tg1 iter1 fi) (pg1 : DG (X0.blk s3 H3 scope ce fp) tg1 is gt) (pt1 : DTs (X0.blk s3 H3 scope ce fp) ifs1 ft) (hT : DKl (X0.blk s3 H3 scope ce fp) kx vx gens scope' pos vs1 vs2 (k + 1) body)
    (hv : ∀ i ∈ vs1, i ∈ vs := by decide) (hi : ∀ i ∈ is, i ∈ vs1 := by decide) (h2 : ∀ i ∈ vs2, i ∈ vs1 := by decide) (hg : gens[k]? = some ⟨tg1, iter1, ifs1, 0⟩ := by rfl)
    (hn : ∀ g, gens[k + 1]? = some g → g.is_async = 0 ∧ ∀ env x, foldedSetIterable g.iter env x = pure x := by (intro g h; first | (cases h; exact ⟨rfl, fun _ _ => rfl⟩) | cases h)) (hc : X0.calm = true := by rfl) :
    DKl (X0.blk s3 H3 scope ce fp) kx vx gens scope' pos vs vs1 k (kFor vs1 fi gt ft body) :=
  ⟨dpcl_imp (dpcl_clause (wi1 := tIx X0.K fi) (g1 := tGx X0.K is gt) (tt1 := tTx X0.K ft) (T := tKlx X0.K vs2 body) hc hv hg
    ⟨fun pins s σ H R I ⟨c', h1, h2⟩ => (pi1.pi c' h1).run pins s σ H R I h2⟩ ⟨fun pins s' σ H' v u Q I r ⟨c', h1, h2⟩ => (pg1.pg c' h1).run pins s' σ H' v u Q I r h2⟩
    ⟨fun pins s' σ H' Q I ⟨c', h1, h2⟩ => (pt1.pts c' h1).run pins s' σ H' Q I h2⟩ hT.pcl hn) fun _ _ _ _ q => kclause_core hi h2 q⟩
theorem de_kcomp {rest : List Comprehension} {scope : Scope} {pos : Pos} {vs2 : List Nat} (own : List (Str × Nat)) (hN : X.N.Nodup) (hi : DI X tg iter fi) (ok : BlkOk X.N X.env.scope scope own) (hv : ∀ i ∈ is, i ∈ own.map (·.2)) (h2v : ∀ i ∈ vs2, i ∈ own.map (·.2))
    (hg : ∀ (s : Shared) (H : Hp) (C : Addr) (cl : List (Str × Addr)) (fp : List Addr), DG (X.blk s H scope (compEnvC scope cl C X.env) fp) tg is gt) (ht : ∀ (s : Shared) (H : Hp) (C : Addr) (cl : List (Str × Addr)) (fp : List Addr), DTs (X.blk s H scope (compEnvC scope cl C X.env) fp) ifs ft)
    (hT : ∀ (s : Shared) (H : Hp) (C : Addr) (cl : List (Str × Addr)) (fp : List Addr), DKl (X.blk s H scope (compEnvC scope cl C X.env) fp) kx vx (⟨tg, iter, ifs, 0⟩ :: rest) scope pos (own.map (·.2)) vs2 1 body)
    (hn : ∀ g, rest[0]? = some g → g.is_async = 0 ∧ ∀ env x, foldedSetIterable g.iter env x = pure x := by (intro g h; first | (cases h; exact ⟨rfl, fun _ _ => rfl⟩) | cases h))
    (hs : ∀ x, foldedSetIterable iter X.env x = pure x := by intro _; rfl) (hc : X.calm = true := by rfl) :
    DE X (.DictComp kx vx (⟨tg, iter, ifs, 0⟩ :: rest) scope pos) (xKComp (own.map (·.2)) fi gt ft body) :=
  ⟨fun c hk => pe_imp (pe_dcN hc hN (hi.pi c hk) ok (g := tGx X.K is gt) (tt := tTx X.K ft) (T := tKlx X.K vs2 body)
    (fun s H C cl fp => ⟨fun pins s' σ H' v u Q I r ⟨c', h1, h2⟩ => ((hg s H C cl fp).pg c' h1).run pins s' σ H' v u Q I r h2⟩)
    (fun s H C cl fp => ⟨fun pins s' σ H' Q I ⟨c', h1, h2⟩ => ((ht s H C cl fp).pts c' h1).run pins s' σ H' Q I h2⟩) (fun s H C cl fp => (hT s H C cl fp).pcl) hn hs) fun σ H Q q => kcomp_core hk hv h2v q⟩
theorem ds_setK (i : Nat) {y : Str} {py spos : Pos} {rest : List Comprehension} {scope : Scope} {pos : Pos} {vs2 : List Nat} (own : List (Str × Nat)) (hN : X.N.Nodup) (hi : DI X tg iter fi) (ok : BlkOk X.N X.env.scope scope own) (hv : ∀ i ∈ is, i ∈ own.map (·.2)) (h2v : ∀ i ∈ vs2, i ∈ own.map (·.2))
    (hg : ∀ (s : Shared) (H : Hp) (C : Addr) (cl : List (Str × Addr)) (fp : List Addr), DG (X.blk s H scope (compEnvC scope cl C X.env) fp) tg is gt) (ht : ∀ (s : Shared) (H : Hp) (C : Addr) (cl : List (Str × Addr)) (fp : List Addr), DTs (X.blk s H scope (compEnvC scope cl C X.env) fp) ifs ft)
    (hT : ∀ (s : Shared) (H : Hp) (C : Addr) (cl : List (Str × Addr)) (fp : List Addr), DKl (X.blk s H scope (compEnvC scope cl C X.env) fp) kx vx (⟨tg, iter, ifs, 0⟩ :: rest) scope pos (own.map (·.2)) vs2 1 body)
    (hn : ∀ g, rest[0]? = some g → g.is_async = 0 ∧ ∀ env x, foldedSetIterable g.iter env x = pure x := by (intro g h; first | (cases h; exact ⟨rfl, fun _ _ => rfl⟩) | cases h))
    (hs : ∀ x, foldedSetIterable iter X.env x = pure x := by intro _; rfl) (hc : X.calm = true := by rfl)
    (hy : X.N[i]? = some y := by rfl) (hyl : X.env.scope.names.lookup y = some .local := by rfl) (hkf : X.env.scope.kind = .function := by rfl) (hl : (py.line == pos.line) = true := by rfl)
    (ha : (scope.names.any fun (n, k) => n == y && (k == .local || k == .cell)) = false := by decide +kernel) :
    DS X (.Assign [.Name y py] (.DictComp kx vx (⟨tg, iter, ifs, 0⟩ :: rest) scope pos) spos) (gSet i (xKComp (own.map (·.2)) fi gt ft body)) :=
  ⟨fun c hk => ps_imp (ps_setDcN hc hN hy hyl (sw_trueD hkf hyl hl ha) (hi.pi c hk) ok (g := tGx X.K is gt) (tt := tTx X.K ft) (T := tKlx X.K vs2 body)
    (fun s H C cl fp => ⟨fun pins s' σ H' v u Q I r ⟨c', h1, h2⟩ => ((hg s H C cl fp).pg c' h1).run pins s' σ H' v u Q I r h2⟩)
    (fun s H C cl fp => ⟨fun pins s' σ H' Q I ⟨c', h1, h2⟩ => ((ht s H C cl fp).pts c' h1).run pins s' σ H' Q I h2⟩) (fun s H C cl fp => (hT s H C cl fp).pcl) hn hs) fun Z σ H q => kcomp_core hk hv h2v (set_core q)⟩
end
end DD

namespace DD
open PySem PySem.Spec PyProof.Rows L2 GenW

/-! ### generators whose consumer owns several objects -/
/-- a consumer: its own objects, what it says of them when ys has come -/
structure Cns where
  Z : List Addr
  W : List V → Heap → Prop
  loc : ∀ ys h h', W ys h → (∀ b ∈ Z, ∀ o, h.get? b = some o → h'.get? b = some o) → W ys h'
  live : ∀ ys h, W ys h → ∀ b ∈ Z, ∃ o, h.get? b = some o ∧ ∀ v, o.data ≠ .cell v
/-- the generator rests: its consumer took x -/
structure Nap (B : Cns) (ys : List V) (x : V) (s s' : Shared) : Prop where
  os : s'.os = s.os
  bare : AllBare s'.gens
  keep : ∀ b o, b ∉ B.Z → s.heap.get? b = some o → s'.heap.get? b = some o
  next : B.W (ys ++ [x]) s'.heap
def Young (X : Cx) (Z : List Addr) : Prop := ∀ b ∈ Z, X.s_0.heap.objs.size ≤ b ∧ b ≠ X.env.locals ∧ ∀ x c, X.env.cells.lookup x = some c → c ≠ b
/-- it runs: ys is out, the consumer's objects stand since h0 -/
def GJ (X : Cx) (B : Cns) (ip : List (Addr × Obj)) (ys : List V) (σ : L2.St) (H : Hp) (s : Shared) : Prop :=
  ∃ h0 : Heap, B.W ys h0 ∧ Inv X (ip ++ pinsAt B.Z h0) σ H s
section
variable {X : Cx} {B : Cns} {ip : List (Addr × Obj)} {ys : List V} {x : V} {σ : L2.St} {H : Hp} {s s' : Shared}
theorem GJ.at (h : GJ X B ip ys σ H s) : B.W ys s.heap ∧ ∀ b ∈ B.Z, H b = none ∧ b ≠ X.env.locals ∧ b ∉ X.fs := by
  obtain ⟨h0, w, I⟩ := h
  have pin : ∀ b ∈ B.Z, ∃ o, h0.get? b = some o ∧ s.heap.get? b = some o ∧ H b = none ∧ b ≠ X.env.locals ∧ b ∉ X.fs := fun b hb => by
    obtain ⟨o, e, _⟩ := B.live ys h0 w b hb
    obtain ⟨h1, h2, h3, h4, _⟩ := I.pin (b, o) (List.mem_append_right _ (List.mem_append_right _ (mem_pinsAt hb e)))
    exact ⟨o, e, h1, h2, h3, h4⟩
  refine ⟨B.loc ys h0 s.heap w fun b hb o e => ?_, fun b hb => ?_⟩
  · obtain ⟨o', e', h1, _⟩ := pin b hb
    rw [e] at e'; cases e'; exact h1
  · obtain ⟨_, _, _, h⟩ := pin b hb; exact h
theorem GJ.inv (h : GJ X B ip ys σ H s) : Inv X ip σ H s := by
  obtain ⟨h0, w, I⟩ := h
  exact I.unpinned
theorem GJ.of (hA : Young X B.Z) (hp : ∀ p ∈ X.pn ++ ip, p.1 ∉ B.Z) (w : B.W ys s.heap) (z : ∀ b ∈ B.Z, H b = none ∧ b ∉ X.fs) (I : Inv X ip σ H s) : GJ X B ip ys σ H s :=
  ⟨s.heap, w, I.pinned (fun b hb => ⟨(z b hb).1, (hA b hb).2.1, (z b hb).2, .inr (hA b hb).1, (hA b hb).2.2, fun p hm e => hp p hm (e ▸ hb)⟩) (B.live ys s.heap w)⟩
theorem GJ.woken (hA : Young X B.Z) (hp : ∀ p ∈ X.pn ++ ip, p.1 ∉ B.Z) (h : GJ X B ip ys σ H s) (z : Nap B ys x s s') : GJ X B ip (ys ++ [x]) σ H s' := by
  obtain ⟨_, hz⟩ := h.at
  have I0 := h.inv
  obtain ⟨z1, z2, z3, z4⟩ := z
  have nt : ∀ b u, H b = some u → b ∉ B.Z := fun b u q hb => by rw [(hz b hb).1] at q; cases q
  obtain ⟨hh, g, d, t, o⟩ := s'
  have ho : o = s.os := z1
  subst ho
  refine GJ.of hA hp z4 (fun b hb => ⟨(hz b hb).1, (hz b hb).2.2⟩) ?_
  refine I0.step (g' := g) (t' := t) (d' := d) (ch := B.Z) (fun b hb => ⟨.inr (hA b hb).1, (hA b hb).2.1, (hA b hb).2.2, fun p hm e => hp p hm (e ▸ hb)⟩)
    (fun b ob _ _ hc q _ => z3 b ob hc q) (fun b ob _ _ hc q _ => ⟨ob.slots, z3 b ob hc q⟩) (fun _ _ _ _ n => n) (fun b ob hc q => ⟨ob, z3 b ob hc q⟩)
    (fun _ _ q => q) (fun _ _ _ q => q) (fun b ps q => ⟨#[], by rw [q, Array.append_empty]⟩) (fun m hm => ?_) (fun b u q => ?_) z2
  · obtain ⟨ob, es, ep, ho, r⟩ := hm
    exact ⟨ob, es, ep, z3 _ ob (fun z => (hz _ z).2.1 rfl) ho, r⟩
  · refine (I0.hok b u q).stay (fun c v hc y => z3 c v ?_ y) (fun _ y => y) fun _ _ y => y
    rcases hc with y | y
    · rw [y]; exact nt b u q
    · exact nt c _ y
end
/-! ### the protocol -/
def GYz (X : Cx) (B : Cns) : Protocol := fun n s₀ v s kap =>
  ∃ ys x ip σ H, n + 1 + ys.length = sizeLine ∧ RelV x v ∧ GJ X B ip ys σ H s ∧ ∀ s', Nap B ys x s s' → kap (.send .none) s'
def GRz (X : Cx) (B : Cns) (Q : List V → VK) : GenEnd := fun n s₀ r s => match r with
  | .ok (.ret u) => ∃ ys v ip σ H, n + ys.length = sizeLine ∧ GJ X B ip ys σ H s ∧ RelV v u ∧ Q ys v H
  | _ => False
def GPz (X : Cx) (B : Cns) (ip : List (Addr × Obj)) (D : GEnds) (ys : List V) (f : Flow) (s : Shared) : Prop :=
  match f with
  | .next => ∃ σ H, GJ X B ip ys σ H s ∧ D.nx ys σ H
  | .brk => ∃ σ H, GJ X B ip ys σ H s ∧ D.bk ys σ H
  | .cont => ∃ σ H, GJ X B ip ys σ H s ∧ D.ct ys σ H
  | .ret u => ∃ v σ H, GJ X B ip ys σ H s ∧ RelV v u ∧ D.rt ys v H
/-- where its code stands; nothing is raised -/
structure GCz (X : Cx) (B : Cns) (ip : List (Addr × Obj)) (A : Around) (c : Code) (fs : List Frame) (gd : Bool → Bool) : Prop where
  nox : ∀ e s, ¬ X.xe e s
  pins : ∀ p ∈ X.pn ++ ip, p.1 ∉ B.Z
  young : Young X B.Z
  over : A.over c fs = X.A
  split : splitAtGen fs = none
  guard : fs.any Frame.guarded = false
  gd : gd false = false
abbrev GKz (X : Cx) (B : Cns) (ip : List (Addr × Obj)) (A : Around) (R : GenEnd) (c : Code) (fs : List Frame) (K : Flow → Sem PySem.Fin) (D : GEnds) : Prop :=
  ∀ (n : Nat) (ys : List V) (s₀ s : Shared) (f : Flow), n + ys.length = sizeLine → GPz X B ip D ys f s → Seg (model X.prog X.w) A R (GYz X B) n s₀ c (K f) fs s
structure GSz (X : Cx) (st : Stmt) (t : TGn) : Prop where
  run : ∀ (A : Around) (B : Cns) (ip : List (Addr × Obj)) (R : GenEnd) (n : Nat) (ys : List V) (s₀ : Shared) (c : Code) (fs : List Frame) (K : Flow → Sem PySem.Fin) (J : Value → Sem PySem.Fin) (gd : Bool → Bool) (lv : List Value → List Value) (s : Shared) (σ : L2.St) (H : Hp) (D : GEnds),
    GCz X B ip A c fs gd → n + ys.length = sizeLine → GKz X B ip A R c fs K D → GJ X B ip ys σ H s → t D ys σ H →
    Seg (model X.prog X.w) A R (GYz X B) n s₀ c ((exec st X.env).wrap K J gd lv) fs s
structure GBz (X : Cx) (st : List Stmt) (t : TGn) : Prop where
  run : ∀ (A : Around) (B : Cns) (ip : List (Addr × Obj)) (R : GenEnd) (n : Nat) (ys : List V) (s₀ : Shared) (c : Code) (fs : List Frame) (K : Flow → Sem PySem.Fin) (J : Value → Sem PySem.Fin) (gd : Bool → Bool) (lv : List Value → List Value) (s : Shared) (σ : L2.St) (H : Hp) (D : GEnds),
    GCz X B ip A c fs gd → n + ys.length = sizeLine → GKz X B ip A R c fs K D → GJ X B ip ys σ H s → t D ys σ H →
    Seg (model X.prog X.w) A R (GYz X B) n s₀ c ((execs st X.env).wrap K J gd lv) fs s
section
variable {X : Cx} {st : Stmt} {rest : List Stmt}
theorem gp_of {B : Cns} {ip : List (Addr × Obj)} {s : Shared} {D : GEnds} {ys : List V} {f : Flow} {h0 : Heap} (w : B.W ys h0) (h : SP X (ip ++ pinsAt B.Z h0) (D.at ys) f s) : GPz X B ip D ys f s := by
  cases f with
  | next => obtain ⟨σ, H, I, q⟩ := h; exact ⟨σ, H, ⟨h0, w, I⟩, q⟩
  | brk => obtain ⟨σ, H, I, q⟩ := h; exact ⟨σ, H, ⟨h0, w, I⟩, q⟩
  | cont => obtain ⟨σ, H, I, q⟩ := h; exact ⟨σ, H, ⟨h0, w, I⟩, q⟩
  | ret u => obtain ⟨v, σ, H, I, r, q⟩ := h; exact ⟨v, σ, H, ⟨h0, w, I⟩, r, q⟩
theorem gz_plain {t : TS} (h : PS X st t) : GSz X st (tPlain t) := by
  refine ⟨fun A B ip R n ys s₀ c fs K J gd lv s σ H D g hn k ⟨h0, w, I⟩ ht => seg_wrap ?_⟩
  rw [g.over]
  exact wpAny_mono (h.run _ s σ H (D.at ys) I ht) (fun f s' hs => k n ys s₀ s' f hn (gp_of w hs)) fun x s' hx => (g.nox _ _ hx).elim
theorem gz_nil : GBz X [] tG0 :=
  ⟨fun A B ip R n ys s₀ c fs K J gd lv s σ H D g hn k hI ht => seg_execs_nil (k n ys s₀ s .next hn ⟨σ, H, hI, ht⟩)⟩
theorem gz_cons {t u : TGn} (a : GSz X st t) (b : GBz X rest u) : GBz X (st :: rest) (tGThen t u) := by
  refine ⟨fun A B ip R n ys s₀ c fs K J gd lv s σ H D g hn k hI ht => seg_execs_cons ?_⟩
  refine a.run A B ip R n ys s₀ c fs _ J gd lv s σ H { D with nx := fun ys' σ' H' => u D ys' σ' H' } g hn (fun n' ys' s₀' s' f hn' hs => ?_) hI ht
  cases f with
  | next =>
    obtain ⟨σ', H', I', q⟩ := hs
    exact b.run A B ip R n' ys' s₀' c fs K J gd lv s' σ' H' D g hn' k I' q
  | brk => exact k n' ys' s₀' s' .brk hn' hs
  | cont => exact k n' ys' s₀' s' .cont hn' hs
  | ret u => exact k n' ys' s₀' s' (.ret u) hn' hs
/-- yield e -/
theorem gz_yield {e : Expr} {yp pos : Pos} {te : TE} (he : PE X e te) (hco : X.env.scope.isCoroutine = false := by rfl) (hi : interactive X.env = false := by rfl) : GSz X (.Expr (.Yield (some e) yp) pos) (tGYield te) := by
  refine ⟨fun A B ip R n ys s₀ c fs K J gd lv s σ H D g hn k ⟨h0, w, I⟩ ht => ?_⟩
  obtain ⟨hlt, ht⟩ := ht
  obtain ⟨n, rfl⟩ : ∃ m, n = m + 1 := ⟨n - 1, by omega⟩
  refine seg_Expr_Yield g.split g.gd g.guard ?_ hco hi
  rw [g.over]
  refine wpAny_mono (he.run _ s σ H _ I ht) (fun v s' hv => ?_) fun x s' hx => (g.nox _ _ hx).elim
  obtain ⟨x, H1, I1, rv, q⟩ := hv
  have G1 : GJ X B ip ys σ H1 s' := ⟨h0, w, I1⟩
  intro kap hk
  refine ⟨ys, x, ip, σ, H1, hn, rv, G1, fun s'' z => hk .none s'' ?_⟩
  refine k n (ys ++ [x]) s'' s'' .next ?_ ⟨σ, H1, G1.woken g.young g.pins z, q⟩
  rw [List.length_append, List.length_singleton]; omega
end
end DD

namespace DD
open PySem PySem.Spec PyProof.Rows L2 GenW

/-! ### for .. in a generator's body -/
section
variable {prog : Program} {w : World} {A : Around} {R : GenEnd} {Y : Protocol} {n : Nat} {s₀ : Shared} {fs : List Frame} {s : Shared} {env : Env}
def forK (tg : Expr) (it : Value) (body : List Stmt) (env : Env) : Flow → Sem PySem.Fin := fun f => match f with
  | .next => .pure (.again (.forLoop tg it body [] env))
  | .cont => .pure (.again (.forLoop tg it body [] env))
  | .brk => .pure (.done .next)
  | .ret v => .pure (.done (.ret v))
def forJ (env : Env) : Value → Sem PySem.Fin := fun e => (do noteFrame e env; theTreesLotGoes e : Sem Unit).bind fun _ => .raise e
theorem seg_forTurn {tg : Expr} {it : Value} {body : List Stmt}
    (h : wpAny (model prog w) (A.over (.forLoop tg it body [] env) fs) (pyNext it) (fun r s1 => match r with
      | none => Seg (model prog w) A R Y n s₀ (.forLoop tg it body [] env) (.pure (.again (.block [] env))) fs s1
      | some v => wpAny (model prog w) (A.over (.forLoop tg it body [] env) fs) (letOwnedTupleGo tg it v) (fun _ s2 => wpAny (model prog w) (A.over (.forLoop tg it body [] env) fs) (assign tg env v) (fun _ s3 =>
          Seg (model prog w) A R Y n s₀ (.forLoop tg it body [] env) ((execs body env).wrap (forK tg it body env) (forJ env) id id) fs s3) (fun _ _ => False) s2) (fun _ _ => False) s1) (fun _ _ => False) s) :
    Seg (model prog w) A R Y n s₀ (.forLoop tg it body [] env) ((model prog w).den (.forLoop tg it body [] env)) fs s := by
  show Seg _ A R Y n s₀ _ ((forTurn tg it body [] env).onRaise (fun x => do noteFrame x env; theTreesLotGoes x)) fs s
  unfold forTurn
  rw [Sem.onRaise_eq_wrap]
  refine seg_bind_wrap (wpAny_standAt ?_)
  refine seg_bind_wrap (wpAny_onRaise (wpAny_mono h (fun r s1 h1 => ?_) fun _ _ z => z.elim))
  cases r with
  | none => exact h1
  | some v =>
    refine seg_bind_wrap (wpAny_mono h1 (fun _ s2 h2 => ?_) fun _ _ z => z.elim)
    refine seg_bind_wrap (wpAny_mono h2 (fun _ s3 h3 => ?_) fun _ _ z => z.elim)
    rw [Sem.bind_eq_wrap', Sem.wrap_wrap]
    rw [Sem.wrap_congr (execs body env) _ _ (K' := forK tg it body env) (H' := forJ env) (fun f => by cases f <;> rfl) (fun e => by rfl)]
    exact h3
theorem seg_block {Kf : Result → Sem PySem.Fin} {g : Bool} {l kp : List Value} {c : Code} {p : Pos}
    (h : Seg (model prog w) A R Y n s₀ c (Kf (.ok .next)) fs s) : Seg (model prog w) A R Y n s₀ (.block [] env) ((model prog w).den (.block [] env)) (.ret Kf none g l c p kp :: fs) s := by
  refine seg_leaf (.ok .next) h
end
def tGFor (wi : TI) (g : TG) (tb : TGn) : TGn := fun D ys σ H => wi σ H fun J H1 => ∃ W : Nat → Nat → List V → L2.St → Hp → Prop, (∃ m, W 0 m ys σ H1) ∧ ∀ i m ys σ H, W i m ys σ H →
  (J.stop i H ∧ D.nx ys σ H) ∨ (J.go i H ∧ ∃ N : List V → L2.St → Hp → Prop, (∀ ys' σ' H', N ys' σ' H' → ∃ m', m' < m ∧ W (i + 1) m' ys' σ' H') ∧ ∀ x H', J.yld i H x H' → g x σ H' fun σ2 H2 => tb { D with nx := N, ct := N, bk := D.nx } ys σ2 H2)
section
variable {X : Cx}
theorem gcz_loop {B : Cns} {ip ip' : List (Addr × Obj)} {A : Around} {c c' : Code} {fs : List Frame} {gd : Bool → Bool} {k : Result → Sem PySem.Fin} {l kp : List Value} {p : Pos} (g : GCz X B ip A c fs gd) (hp : ∀ p ∈ ip', p.1 ∉ B.Z) (hw : c'.weight = 0) (hu : c'.cUnits = 0) :
    GCz X B ip' A c' (.ret k none (gd false) l c p kp :: fs) id where
  nox := g.nox
  pins := fun p hm => (List.mem_append.mp hm).elim (fun z => g.pins p (List.mem_append_left _ z)) (hp p)
  young := g.young
  over := (over_loop hw hu).trans g.over
  split := by
    show (splitAtGen fs).map _ = none
    rw [g.split]; rfl
  guard := by
    show (gd false || fs.any Frame.guarded) = false
    rw [g.gd, g.guard]; rfl
  gd := rfl
theorem gz_for {tg iter : Expr} {body : List Stmt} {wi : TI} {gt : TG} {tb : TGn} {pos : Pos} (hc : X.calm = true) (hi : PI X tg iter wi) (hg : PG X tg gt) (hb : GBz X body tb) (hs : ∀ x, foldedSetIterable iter X.env x = pure x := by intro _; rfl) :
    GSz X (.For tg iter body [] pos) (tGFor wi gt tb) := by
  refine ⟨fun A B ip R n ys s₀ c fs K J gd lv s σ H D g hn k ⟨h0, w, I⟩ ht => ?_⟩
  have no : ∀ {α : Type} {t : Sem α} {Q Q' : α → Shared → Prop} {E : Value → Shared → Prop} {s : Shared}, wpAny (model X.prog X.w) X.A t Q X.xe s → (∀ a s, Q a s → Q' a s) → wpAny (model X.prog X.w) X.A t Q' E s := fun h f => wpAny_mono h f fun e s z => (g.nox e s z).elim
  rw [exec_For]
  refine seg_bind_wrap ?_
  rw [g.over]
  refine wpAny_standAt (seg_bind_wrap ?_)
  rw [g.over]
  refine no (hi.run _ s σ H _ I ht) fun v s1 h1 => seg_bind_wrap ?_
  rw [g.over, hs v]
  refine wpAny_pure (seg_bind_wrap ?_)
  rw [g.over]
  refine wpAny_standAt (seg_bind_wrap ?_)
  rw [g.over]
  refine wpAny_holding (no h1 fun itv s2 h2 => ?_)
  obtain ⟨it, fp, tn, J1, H2, rfl, I2, T, st2, f2, W, ⟨m0, w0⟩, turn⟩ := h2
  refine seg_call fun p => ?_
  have hfZ : ∀ b ∈ fp, b ∉ B.Z := fun b hb hz => by
    obtain ⟨o, e, _⟩ := B.live ys h0 w b hz
    exact (f2 b hb).2.2.2.2.2 (b, o) (List.mem_append_right _ (List.mem_append_right _ (mem_pinsAt hz e))) rfl
  have stat : ∀ {H' : Hp} {h' : Heap}, (∀ b ∈ fp, H' b = none) → ∀ b ∈ fp, FpOk X (ip ++ pinsAt B.Z h') H' b := fun {H' h'} hn b hb => ⟨hn b hb, (f2 b hb).2.1, (f2 b hb).2.2.1, (f2 b hb).2.2.2.1, (f2 b hb).2.2.2.2.1, fun p hp e => by
    rcases List.mem_append.mp hp with q | q
    · exact (f2 b hb).2.2.2.2.2 p (List.mem_append_left _ q) e
    · rcases List.mem_append.mp q with q | q
      · exact (f2 b hb).2.2.2.2.2 p (List.mem_append_right _ (List.mem_append_left _ q)) e
      · exact hfZ b hb (e ▸ (of_pinsAt q).1)⟩
  have loop : ∀ (m i n : Nat) (ys : List V) (s₀ s : Shared) (σ : L2.St) (H : Hp), n + ys.length = sizeLine → W i m ys σ H → GJ X B ip ys σ H s → tn i s.heap → (∀ b ∈ fp, H b = none) →
      Seg (model X.prog X.w) A R (GYz X B) n s₀ (.forLoop tg (.ref it) body [] X.env) ((model X.prog X.w).den (.forLoop tg (.ref it) body [] X.env))
        (.ret (fun r => ((match r with | .ok f => (.pure f : Sem Flow) | .error e => .raise e).onRaise (cameBack X.env)).wrap K J gd lv) none (gd false) (lv []) c p [] :: fs) s := by
    intro m
    induction m using Nat.strongRecOn with
    | ind m ih =>
      intro i n ys s₀ s σ H hn w1 ⟨h0, wB, I⟩ st nf
      have gl := fun (ip' : List (Addr × Obj)) (hip : ∀ p ∈ ip', p.1 ∉ B.Z) (kk : Result → Sem PySem.Fin) => gcz_loop (k := kk) (c' := .forLoop tg (.ref it) body [] X.env) (l := lv []) (kp := []) (p := p) g hip rfl rfl
      have hip : ∀ p ∈ ip, p.1 ∉ B.Z := fun p hp => g.pins p (List.mem_append_right _ hp)
      refine seg_forTurn ?_
      rw [(gl ip hip _).over]
      rcases turn i m ys σ H w1 with ⟨stop, qn⟩ | ⟨go, N, hN, step⟩
      · refine wpAny_mono (T.done X rfl rfl rfl hc i _ s σ H (fun _ _ => False) I (stat nf) st stop) (fun r s4 ⟨hr, I4⟩ => ?_) fun _ _ z => z
        subst hr
        refine seg_again rfl (seg_block ?_)
        exact k n ys s₀ s4 .next hn ⟨σ, H, ⟨h0, wB, I4⟩, qn⟩
      · refine wpAny_mono (T.item X rfl rfl rfl hc i _ s σ H (fun _ _ => False) I (stat nf) st go) (fun r s4 ⟨u, hr, h4⟩ => ?_) fun _ _ z => z
        subst hr
        refine wpAny_mono h4 (fun _ s5 ⟨x, H5, I5, r5, y5, st5, nf5⟩ => ?_) fun _ _ z => z
        have I5' := I5.pinned (stat nf5) (T.obj _ _ st5)
        have I6 : Inv X ((ip ++ pinsAt fp s5.heap) ++ pinsAt B.Z h0) σ H5 s5 := I5'.pins_of fun p hp => I5'.pin p (by
          rcases List.mem_append.mp hp with q | q
          · rcases List.mem_append.mp q with q | q
            · exact List.mem_append_right _ (List.mem_append_left _ (List.mem_append_left _ q))
            · exact List.mem_append_right _ (List.mem_append_right _ q)
          · exact List.mem_append_right _ (List.mem_append_left _ (List.mem_append_right _ q)))
        have hip' : ∀ p ∈ ip ++ pinsAt fp s5.heap, p.1 ∉ B.Z := fun p hp => (List.mem_append.mp hp).elim (hip p) fun q => hfZ _ (of_pinsAt q).1
        refine no (hg.run _ s5 σ H5 x u _ I6 r5 (step x H5 y5)) fun _ s6 ⟨σ6, H6, I7, q6⟩ => ?_
        refine hb.run A B (ip ++ pinsAt fp s5.heap) R n ys s₀ _ _ _ _ id id s6 σ6 H6 { D with nx := N, ct := N, bk := D.nx } (gl _ hip' _) hn (fun n' ys' s₀' s7 f hn' hs => ?_) ⟨h0, wB, I7⟩ q6
        have weak : ∀ {σ7 : L2.St} {H7 : Hp}, GJ X B (ip ++ pinsAt fp s5.heap) ys' σ7 H7 s7 → GJ X B ip ys' σ7 H7 s7 ∧ tn (i + 1) s7.heap ∧ ∀ b ∈ fp, H7 b = none := fun {σ7 H7} ⟨h1, w1, J1⟩ => by
          refine ⟨⟨h1, w1, J1.pins_of fun p hp => J1.pin p (by
            rcases List.mem_append.mp hp with q | q
            · exact List.mem_append_right _ (List.mem_append_left _ (List.mem_append_left _ q))
            · exact List.mem_append_right _ (List.mem_append_right _ q))⟩, T.keep _ _ _ st5 fun b hb o e => (J1.pin (b, o) (List.mem_append_right _ (List.mem_append_left _ (List.mem_append_right _ (mem_pinsAt hb e))))).1, fun b hb => ?_⟩
          obtain ⟨o, e, _⟩ := T.obj _ _ st5 b hb
          exact (J1.pin (b, o) (List.mem_append_right _ (List.mem_append_left _ (List.mem_append_right _ (mem_pinsAt hb e))))).2.1
        cases f with
        | next =>
          obtain ⟨σ7, H7, G7, n7⟩ := hs
          obtain ⟨m', hm, w7⟩ := hN ys' σ7 H7 n7
          obtain ⟨a1, a2, a3⟩ := weak G7
          exact seg_again rfl (ih m' hm (i + 1) n' ys' s₀' s7 σ7 H7 hn' w7 a1 a2 a3)
        | cont =>
          obtain ⟨σ7, H7, G7, n7⟩ := hs
          obtain ⟨m', hm, w7⟩ := hN ys' σ7 H7 n7
          obtain ⟨a1, a2, a3⟩ := weak G7
          exact seg_again rfl (ih m' hm (i + 1) n' ys' s₀' s7 σ7 H7 hn' w7 a1 a2 a3)
        | brk =>
          obtain ⟨σ7, H7, G7, q⟩ := hs
          exact seg_leaf (.ok .next) (k n' ys' s₀' s7 .next hn' ⟨σ7, H7, (weak G7).1, q⟩)
        | ret v =>
          obtain ⟨x7, σ7, H7, G7, r7, q⟩ := hs
          exact seg_leaf (.ok (.ret v)) (k n' ys' s₀' s7 (.ret v) hn' ⟨x7, σ7, H7, (weak G7).1, r7, q⟩)
  exact loop m0 0 n ys s₀ s2 σ H2 hn w0 ⟨h0, w, I2⟩ st2 fun b hb => (f2 b hb).1
end
end DD

namespace DD
open PySem PySem.Spec PyProof.Rows L2 GenW

/-! ### what the call of a generator def gives -/
def REz (P : Program) (w : World) (outer : List Env) (H : Hp) (s : Shared) (B : Cns) (Q : List V → Hp → Prop) : GenEnd := fun n s₀ r s1 =>
  (r = .ok (.ret .none) ∨ r = .ok .next) ∧ ∃ H' ys, s1.os = s.os ∧ AllBare s1.gens ∧ Un (frs outer) [] H H' s.heap s1.heap ∧ HOk P w H' s1.heap ∧ (∀ b ∈ B.Z, H' b = none) ∧ B.W ys s1.heap ∧ ys.length ≤ sizeLine ∧ Q ys H'
def YIz (s : Shared) (B : Cns) (a : Addr) (g : Nat) : Protocol := fun n s₀ v s1 kap =>
  s1.os = s.os ∧ AllBare s1.gens ∧ s1.heap.NoLimit ∧ s1.heap.IsGen a g ∧ ∃ ys x, n + 1 + ys.length = sizeLine ∧ RelV x v ∧ B.W ys s1.heap ∧ ∀ s', Nap B ys x s1 s' → kap (.send .none) s'
def GMadeZ (P : Program) (w : World) (k : Nat) (outer : List Env) (H : Hp) (s : Shared) (Q : List V → Hp → Prop) (u : Value) (s' : Shared) : Prop :=
  ∃ (a : Addr) (g : Nat) (c : Code), u = .ref a ∧ s.heap.objs.size ≤ a ∧ a < s'.heap.objs.size ∧ s'.heap.IsGen a g ∧ s'.gens[g]? = some (.fresh c) ∧ s'.os = s.os ∧ AllBare s'.gens ∧ s'.heap.NoLimit ∧ (∀ b o, s.heap.get? b = some o → s'.heap.get? b = some o) ∧
    ∀ (A : Around) (B : Cns) (s2 : Shared), Room k A → A.frames = some outer → (∀ b ∈ B.Z, s'.heap.objs.size ≤ b) → (∀ b o, s'.heap.get? b = some o → s2.heap.get? b = some o) → B.W [] s2.heap → s2.os = s.os → AllBare s2.gens →
      Seg (model P w) A (REz P w outer H s B Q) (YIz s B a g) sizeLine s2 c ((model P w).den c) [] s2
def GRet (P : Program) (w : World) (k : Nat) (outer : List Env) (H : Hp) (s : Shared) (Q : List V → Hp → Prop) : Result → Shared → Prop := fun r s' => match r with
  | .ok (.ret u) => GMadeZ P w k outer H s Q u s'
  | _ => False
/-- the body promises -/
abbrev GenBody (P : Program) (w : World) (K : PySem.W.Frag) (mg : Str → Option Value) (base : Heap) (N : List Str) (qual : Str) (scope : Scope) (f : Addr) (k : Nat) (body : List Stmt) (vs : List V) (H : Hp) (Q : List V → Hp → Prop) : Prop :=
  ∀ (cdv : Value) (A : Around) (outer : List Env) (s : Shared) (E : XK) (pn : List (Addr × Obj)), Room k (A.deeper (envOfC qual scope s.heap.objs.size f cdv)) →
    ∃ t, GBz (gcxOf P w K mg base N qual scope f cdv A outer s H E pn).nox body t ∧ t { nx := fun ys _ H' => Q ys H', rt := fun ys v H' => v = .non ∧ Q ys H' } [] (start N vs) H
section
variable {P : Program} {w : World} {K : PySem.W.Frag} {mg : Str → Option Value} {base : Heap} {k : Nat} {f : Addr} {name qual : Str} {params : Arguments} {body : List Stmt} {scope : Scope} {dV kV doc pm cdv ct : Value} {an : Option Addr} {N ps : List Str}
/-- behind the binding -/
theorem gen_core {A : Around} {outer : List Env} {s : Shared} {H : Hp} {us : List Value} {vs : List V} {Q : List V → Hp → Prop} {Ex : Value → Shared → Prop} (S : GScope N ps scope) (hr : Room (k + 1) A) (e0 : Env0 P w K mg base A outer s H) (hl : vs.length = ps.length) (r : Vals vs us)
    (hbody : GenBody P w K mg base N qual scope f k body vs H Q) :
    wpAny (model P w) A.in1 (newFunctionEnv (PySem.W.fnOf name qual params body scope dV kV doc pm an cdv ct).scope (PySem.W.fnOf name qual params body scope dV kV doc pm an cdv ct).globals (PySem.W.fnOf name qual params body scope dV kV doc pm an cdv ct).closure (ps.zip us) ((PySem.W.fnOf name qual params body scope dV kV doc pm an cdv ct).qualname ++ ".<locals>.") (some f)
        (PySem.W.fnOf name qual params body scope dV kV doc pm an cdv ct).code none (PySem.W.fnOf name qual params body scope dV kV doc pm an cdv ct).builtins)
      (fun env s₂ => s₂.heap.NoLimit ∧ GRet P w (k + 1) outer H s Q (.ok (.ret (.ref s₂.heap.objs.size)))
        { s₂ with gens := s₂.gens.push (.fresh (.func body env)), toks := s₂.toks + 1 + 1,
                  heap := s₂.heap.push { cls := .type "generator", data := .fields #[.int s₂.gens.size 0, .str name s₂.toks, .str qual (s₂.toks + 1)] } }) Ex s := by
  have lim : s.heap.NoLimit := e0.mod.nolimit.keeps fun b o e => (e0.bs b o e).1
  have hkind : ∀ y ∈ ps.zip us, scope.names.lookup y.1 = some .local ∨ (scope.names.lookup y.1 = some .cell ∧ ((cellsFrom (s.heap.objs.size + 1) scope.names []).lookup y.1).isSome = true) := fun y hy => by
    rcases S.par y.1 (List.of_mem_zip hy).1 with q | q
    · exact .inl q
    · exact .inr ⟨q, PySem.W.cellsFrom_some _ _ _ (.inl q)⟩
  refine wpAny_newFunctionEnv_cells S.kind hkind fun env he s1 x => ?_
  subst he
  have lim1 : s1.heap.NoLimit := lim.keeps x.toInCall.keep
  refine ⟨lim1, ?_⟩
  obtain ⟨h1, tk, es1, _⟩ := x.done
  have os1 : s1.os = s.os := by rw [es1]
  have gen1 : s1.gens = s.gens := by rw [es1]
  have lt1 : s.heap.objs.size < s1.heap.objs.size := x.toInCall.ns.lt
  have kp1 : ∀ b o, s.heap.get? b = some o → s1.heap.get? b = some o := x.toInCall.keep
  obtain ⟨gid, eg⟩ : ∃ gid, s1.gens.size = gid := ⟨_, rfl⟩
  obtain ⟨ga, ea⟩ : ∃ ga, s1.heap.objs.size = ga := ⟨_, rfl⟩
  obtain ⟨go, ego⟩ : ∃ go : Obj, ({ cls := .type "generator", data := .fields #[.int s1.gens.size 0, .str name s1.toks, .str qual (s1.toks + 1)] } : Obj) = go := ⟨_, rfl⟩
  have hgo : ∀ h : Heap, h.get? ga = some go → h.IsGen ga gid := fun h e => by
    subst ego eg
    exact ⟨_, _, _, e, rfl, rfl, rfl⟩
  have hgd : ∀ v, go.data ≠ .cell v := fun v q => by subst ego; cases q
  have hpush : (s1.heap.push go).get? ga = some go := by subst ego ea; exact Heap.get?_push_size _ rfl
  rw [ea]
  show GMadeZ P w (k + 1) outer H s Q (.ref ga) { s1 with gens := s1.gens.push (.fresh (.func body (envOfC qual scope s.heap.objs.size f cdv))), toks := s1.toks + 1 + 1, heap := s1.heap.push _ }
  rw [ego]
  refine ⟨ga, gid, .func body (envOfC qual scope s.heap.objs.size f cdv), rfl, ?_, ?_, hgo _ hpush, ?_, os1, ?_, lim1.keeps fun b o e => Heap.get?_push_of_some _ e, fun b o e => Heap.get?_push_of_some _ (kp1 b o e), ?_⟩
  · rw [← ea]; exact Nat.le_of_lt lt1
  · show ga < (s1.heap.push go).objs.size
    rw [Heap.size_push, ea]; exact Nat.lt_succ_self _
  · rw [← eg]; exact Array.getElem?_push_size ..
  · exact AllBare.push (by rw [gen1]; exact e0.bare) rfl
  intro Aw B s2 hrw hfr hZ hk2 hW hos hba
  have hZ' : ∀ b ∈ B.Z, ga < b := fun b hb => by
    have h := hZ b hb
    have h' : (s1.heap.push go).objs.size ≤ b := h
    rw [Heap.size_push, ea] at h'
    exact h'
  have e0w : Env0 P w K mg base Aw outer s H := ⟨hfr, e0.mod, e0.bs, e0.bsz, e0.funs, e0.frf, e0.hok, e0.bare⟩
  obtain ⟨t, ht, hq⟩ := hbody cdv Aw outer s (fun _ _ _ => True) [(ga, go)] (hrw.deeper _)
  have I1 : Inv (gcxOf P w K mg base N qual scope f cdv Aw outer s H (fun _ _ _ => True) []) [] (start N vs) H s1 := inv_startG S hrw.hd e0w hl r x
  have kp2 : ∀ b o, s1.heap.get? b = some o → s2.heap.get? b = some o := fun b o e => hk2 b o (Heap.get?_push_of_some _ e)
  have I2 : Inv (gcxOf P w K mg base N qual scope f cdv Aw outer s H (fun _ _ _ => True) []) [] (start N vs) H s2 :=
    I1.call' (ch := []) (hos.trans os1.symm) (Un.kept kp2) (I1.hok.kept kp2) hba fun b z => nomatch z
  have hea : s2.heap.get? ga = some go := hk2 ga go hpush
  have young : ∀ b, ga ≤ b → H b = none ∧ b ≠ s.heap.objs.size ∧ b ∉ frs outer ∧ s.heap.objs.size ≤ b ∧ ∀ y c, (cellsFrom (s.heap.objs.size + 1) scope.names []).lookup y = some c → c ≠ b := fun b hb => by
    rw [← ea] at hb
    refine ⟨I1.hok.fresh hb, Nat.ne_of_gt (Nat.lt_of_lt_of_le lt1 hb), I1.nofs hb, Nat.le_trans (Nat.le_of_lt lt1) hb, fun y c e z => ?_⟩
    obtain ⟨v, ob, ho, _⟩ := I1.cell y c e
    have := Heap.lt_size ho
    rw [z] at this
    exact absurd (Nat.lt_of_lt_of_le this hb) (Nat.lt_irrefl _)
  have I3 : Inv (gcxOf P w K mg base N qual scope f cdv Aw outer s H (fun _ _ _ => True) [(ga, go)]) [] (start N vs) H s2 := Inv.pinnedG I2 fun p hp => by
    have e : p = (ga, go) := by simpa using hp
    subst e
    obtain ⟨y1, y2, y3, _, _⟩ := young ga (Nat.le_refl _)
    exact ⟨hea, y1, y2, y3, hgd⟩
  have I4 := I3.wish fun _ _ => False
  have hA : Young (gcxOf P w K mg base N qual scope f cdv Aw outer s H (fun _ _ _ => True) [(ga, go)]).nox B.Z := fun b hb => by
    obtain ⟨_, y2, _, y4, y5⟩ := young b (Nat.le_of_lt (hZ' b hb))
    exact ⟨y4, y2, y5⟩
  have hpn : ∀ p ∈ (gcxOf P w K mg base N qual scope f cdv Aw outer s H (fun _ _ _ => True) [(ga, go)]).nox.pn ++ [], p.1 ∉ B.Z := fun p hp hz => by
    have e : p = (ga, go) := by
      rw [List.append_nil] at hp
      exact List.mem_singleton.mp hp
    subst e
    exact absurd (hZ' ga hz) (Nat.lt_irrefl _)
  have G0 : GJ (gcxOf P w K mg base N qual scope f cdv Aw outer s H (fun _ _ _ => True) [(ga, go)]).nox B [] [] (start N vs) H s2 :=
    GJ.of hA hpn hW (fun b hb => by
      obtain ⟨y1, _, y3, _⟩ := young b (Nat.le_of_lt (hZ' b hb))
      exact ⟨y1, y3⟩) I4
  have isg : ∀ {ip : List (Addr × Obj)} {ys : List V} {s' : Shared} {σ' : L2.St} {H' : Hp}, GJ (gcxOf P w K mg base N qual scope f cdv Aw outer s H (fun _ _ _ => True) [(ga, go)]).nox B ip ys σ' H' s' → s'.heap.IsGen ga gid := fun {ip ys s' σ' H'} G =>
    hgo _ (G.inv.pin (ga, go) (List.mem_append_left _ (List.mem_singleton.mpr rfl))).1
  refine seg_func ?_
  refine seg_imp (R := GRz (gcxOf P w K mg base N qual scope f cdv Aw outer s H (fun _ _ _ => True) [(ga, go)]).nox B fun ys v H' => v = .non ∧ Q ys H') (Y := GYz (gcxOf P w K mg base N qual scope f cdv Aw outer s H (fun _ _ _ => True) [(ga, go)]).nox B) (fun n s₀ r s1' hR => ?_) (fun n s₀ v s1' kap kap' hkk hY => ?_) sizeLine ?_
  · cases r with
    | error e => exact hR.elim
    | ok fl =>
      cases fl with
      | ret u =>
        obtain ⟨ys, v, ip, σ', H', hn, G, rv, ev, hQ⟩ := hR
        subst ev
        cases (show u = Value.none from rv)
        obtain ⟨hw, hz⟩ := G.at
        have J := G.inv
        exact ⟨.inl rfl, H', ys, J.os, J.bare, J.base, J.hok, fun b hb => (hz b hb).1, hw, by omega, hQ⟩
      | _ => exact hR.elim
  · obtain ⟨ys, xx, ip, σ', H', hn, h2, G, h3⟩ := hY
    have J := G.inv
    exact ⟨J.os, J.bare, J.nolimit, isg G, ys, xx, hn, h2, G.at.1, fun s' z => hkk _ _ (h3 s' z)⟩
  · refine ht.run Aw B [] _ sizeLine [] s2 _ [] _ _ id id s2 (start N vs) H _ ⟨fun e s z => z, hpn, hA, over_func, rfl, rfl, rfl⟩ (Nat.add_zero _) (fun n ys s₀ s' fl hn hs => ?_) G0 hq
    cases fl with
    | next =>
      obtain ⟨σ', H', G, hQ⟩ := hs
      exact seg_end (.ok (.ret .none)) ⟨ys, .non, [], σ', H', hn, G, rfl, rfl, hQ⟩
    | brk => obtain ⟨_, _, _, q⟩ := hs; exact False.elim q
    | cont => obtain ⟨_, _, _, q⟩ := hs; exact False.elim q
    | ret u =>
      obtain ⟨v, σ', H', G, rv, ev, hQ⟩ := hs
      exact seg_end (.ok (.ret u)) ⟨ys, v, [], σ', H', hn, G, rv, ev, hQ⟩
end
end DD

namespace DD
open PySem PySem.Spec PyProof.Rows L2 GenW

/-! ### consumers: list(g), [x for x in g] -/
def listCns (S : Addr) : Cns where
  Z := [S]
  W := fun ys h => ∃ (acc : Array Value) (c : Nat), h.get? S = some (lstObj acc c) ∧ Vals ys acc.toList
  loc := fun ys h h' ⟨acc, c, e, r⟩ k => ⟨acc, c, k S (List.mem_singleton.mpr rfl) _ e, r⟩
  live := fun ys h ⟨acc, c, e, r⟩ b hb => by
    rw [List.mem_singleton.mp hb]
    exact ⟨_, e, fun v z => by cases z⟩
def compCns (S C : Addr) : Cns where
  Z := [S, C]
  W := fun ys h => (∃ (acc : Array Value) (c : Nat), h.get? S = some (lstObj acc c) ∧ Vals ys acc.toList) ∧ ∃ m, h.Ns C m
  loc := fun ys h h' ⟨⟨acc, c, e, r⟩, m, o, es, ep, ho, q⟩ k => ⟨⟨acc, c, k S List.mem_cons_self _ e, r⟩, m, o, es, ep, k C (List.mem_cons_of_mem _ List.mem_cons_self) _ ho, q⟩
  live := fun ys h ⟨⟨acc, c, e, r⟩, m, o, es, ep, ho, hd, q⟩ b hb => by
    rcases List.mem_cons.mp hb with z | z
    · subst z; exact ⟨_, e, fun v z => by cases z⟩
    · rw [List.mem_singleton.mp z]
      exact ⟨o, ho, fun v z => by first | (rw [hd] at z; cases z) | (rw [q.1] at z; cases z)⟩
theorem GMadeZ.list {P : Program} {w : World} {k : Nat} {outer : List Env} {H : Hp} {s s' : Shared} {Q : List V → Hp → Prop} {u : Value} (h : GMadeZ P w k outer H s Q u s') : GMade P w k outer H s [] Q (fun _ _ _ => False) u s' := by
  obtain ⟨a, g, c, e, h1, h2, h3, h4, h5, h6, h7, h8, wake⟩ := h
  refine ⟨a, g, c, e, h1, h2, h3, h4, h5, h6, h7, h8, fun A S s2 hr hf hS hk ⟨c0, hS0⟩ hos hb => ?_⟩
  refine seg_imp (fun n s₀ r s1 hR => ?_) (fun n s₀ v s1 kap kap' hkk hY => ?_) sizeLine (wake A (listCns S) s2 hr hf (fun b hb => by rw [List.mem_singleton.mp hb]; exact hS) hk ⟨#[], c0, hS0, .nil⟩ hos hb)
  · obtain ⟨q1, H', ys, q2, q3, q4, q5, q6, ⟨acc, cc, q7, q8⟩, q9, q10⟩ := hR
    exact .inl ⟨q1, H', ys, acc, cc, q2, q3, q4, q5, q6 S (List.mem_singleton.mpr rfl), q7, q8, q9, q10⟩
  · obtain ⟨q1, q2, q3, q4, ys, x, q5, q6, ⟨acc, cc, q7, q8⟩, q9⟩ := hY
    refine ⟨q1, q2, q3, q4, ⟨acc, cc, q7, ?_⟩, fun s' z => hkk _ _ (q9 s' ⟨z.os, z.bare, fun b o hn e => z.keep b o (fun h => hn (List.mem_singleton.mpr h)) e, ?_⟩)⟩
    · have e1 := q8.length
      have e2 : acc.toList.length = acc.size := by simp
      omega
    · obtain ⟨c', e'⟩ := z.own acc cc q7
      refine ⟨acc.push v, c', e', ?_⟩
      rw [Array.toList_push]
      exact q8.append (.cons q6 .nil)
structure PGenZ (X : Cx) (k : Nat) (e : Expr) (tg : TGen) : Prop where
  run : ∀ (pins : List (Addr × Obj)) (s : Shared) (σ : L2.St) (H : Hp) (cont : List V → Hp → Prop), Inv X pins σ H s → tg σ H cont → wpAny (model X.prog X.w) X.A (eval e X.env)
    (fun u s' => ∃ H1 sc, Inv X pins σ H1 sc ∧ GMadeZ X.prog X.w k X.stack H1 sc cont u s') X.xe s
theorem PGenZ.list {X : Cx} {k : Nat} {e : Expr} {tg : TGen} (h : PGenZ X k e tg) : PGen X k e tg (fun _ _ _ => False) :=
  ⟨fun pins s σ H cont I q => thn (h.run pins s σ H cont I q) fun u s' ⟨H1, sc, I1, G⟩ => ⟨H1, sc, [], I1, ExOk.nil, G.list⟩⟩
section
variable {X : Cx} {k : Nat} {iter : Expr} {tg : TGen} {x : Str} {px px2 pos : Pos} {scope : Scope} {own : List (Str × Nat)}
/-- [x for x in g(..)] -/
theorem pe_lcG (h : PGenZ X k iter tg) (hc : X.calm = true) (hN : X.N.Nodup) (ok : BlkOk X.N X.env.scope scope own) (hx : scope.names.lookup x = some .local) (hr : Room (k + 3) X.A) (hd : (x == ("__debug__" : Str)) = false := by decide)
    (hs : ∀ x, foldedSetIterable iter X.env x = pure x := by intro _; rfl) :
    PE X (.ListComp (.Name x px2) [⟨.Name x px, iter, [], 0⟩] scope pos) (tListG tg) := by
  refine ⟨fun pins s σ H Q I hq => ?_⟩
  rw [eval_ListComp]
  have cells : ∀ y ∈ scope.names, y.2 = .free → ∃ c, X.env.cells.lookup y.1 = some c := fun y hy e => (ok.free y hy e).elim (fun k => I.ok.has _ (.inl k)) fun k => I.ok.has _ (.inr k)
  refine wpAny_comprehension_free (use := none) rfl hs (closure_ok cells) ok.kind (fun y hy e => (ok.uniq y hy).trans (congrArg some e)) (thn (h.run pins s σ H _ I hq) fun u s1 ⟨H1, sc, I1, G⟩ => ?_)
  obtain ⟨a, g, c, rfl, ha1, ha2, hg, hgs, hos, hb, hl, hkp, wake⟩ := G
  have I2 : Inv X pins σ H1 s1 := I1.call' (ch := []) hos (Un.kept hkp) (I1.hok.kept hkp) hb fun b z => nomatch z
  have szle : sc.heap.objs.size ≤ s1.heap.objs.size := Nat.le_trans ha1 (Nat.le_of_lt ha2)
  refine wpAny_pyIter_gen hg ?_
  refine wpAny_newObj_type (newEnv_comp ?_) (Nat.zero_le _)
  obtain ⟨S, eS⟩ : ∃ S, s1.heap.objs.size = S := ⟨_, rfl⟩
  obtain ⟨s3, es3⟩ : ∃ s3 : Shared, { s1 with heap := s1.heap.push { cls := .type "list", data := .seq ([] : List Value).toArray } } = s3 := ⟨_, rfl⟩
  have h3 : s3.heap = s1.heap.push { cls := .type "list", data := .seq ([] : List Value).toArray } := by rw [← es3]
  have I3 : Inv X pins σ H1 s3 := by
    rw [← es3]
    exact I2.kept (t' := s1.toks) fun b o e => Heap.get?_push_of_some _ e
  have I4 := block_start (fp := []) I3 ok hN (fun b hb => nomatch hb)
  obtain ⟨cl, ecl⟩ : ∃ cl, cellsFrom (s3.heap.objs.size + 1) scope.names (cloFrom X.env.cells scope.names []) = cl := ⟨_, rfl⟩
  obtain ⟨C, eC⟩ : ∃ C, s3.heap.objs.size = C := ⟨_, rfl⟩
  have eC1 : C = S + 1 := by rw [← eC, h3, Heap.size_push, eS]
  obtain ⟨s4, es4⟩ : ∃ s4 : Shared, { s3 with heap := pushCells (s3.heap.push { cls := .type "dict", data := .dict #[] }) scope.names } = s4 := ⟨_, rfl⟩
  rw [ecl, es4] at I4
  rw [es3, ecl, es4, eS]
  show codeAny _ _ (.compStart (.ListComp (.Name x px2) [⟨.Name x px, iter, [], 0⟩] scope pos) 0 (.ref a) (.ref S) (compEnvC scope cl s3.heap.objs.size X.env)) (compPost (model X.prog X.w) X.A X.xe none _ (.ref S) s3.heap.objs.size) s4
  rw [eC] at I4 ⊢
  obtain ⟨ce, ece⟩ : ∃ ce, compEnvC scope cl C X.env = ce := ⟨_, rfl⟩
  have cL : ce.locals = C := by rw [← ece]; rfl
  have cK : ce.scope.kind = .function := by rw [← ece]; exact ok.kind
  have cX : ce.kindOf x = some .local := by rw [← ece]; exact lookup_relabel_local hx
  rw [ece] at I4 ⊢
  have kp34 : ∀ b o, s3.heap.get? b = some o → s4.heap.get? b = some o := fun b o e => by rw [← es4]; exact pushCells_keeps _ _ _ _ (Heap.get?_push_of_some _ e)
  have kp14 : ∀ b o, s1.heap.get? b = some o → s4.heap.get? b = some o := fun b o e => kp34 b o (by rw [h3]; exact Heap.get?_push_of_some _ e)
  have atS : s4.heap.get? S = some (lstObj #[] 0) := kp34 S _ (by rw [h3, ← eS]; exact Heap.get?_push_size _ rfl)
  obtain ⟨m0, hm0, _⟩ := I4.loc
  have hm0 : s4.heap.Ns C m0 := by rw [← cL]; exact hm0
  have hSa : S ≠ a := by rw [← eS]; exact Nat.ne_of_gt ha2
  have hCa : C ≠ a := by rw [eC1]; rw [← eS]; exact Nat.ne_of_gt (Nat.lt_succ_of_lt ha2)
  have hSC : S ≠ C := by rw [eC1]; exact Nat.ne_of_lt (Nat.lt_succ_self _)
  have hst : cStatics < S := by
    obtain ⟨_, hn, _⟩ := hl
    rw [← eS]; exact hn.lt
  have hSs : S ≠ cStatics := Nat.ne_of_gt hst
  have hCs : C ≠ cStatics := by rw [eC1]; exact Nat.ne_of_gt (Nat.lt_succ_of_lt hst)
  have gen4 : s4.gens = s1.gens := by rw [← es4, ← es3]
  have os4 : s4.os = s1.os := by rw [← es4, ← es3]
  have hmem : ∀ b, b ∈ (compCns S C).Z ↔ b = S ∨ b = C := fun b => by
    show b ∈ [S, C] ↔ _
    rw [List.mem_cons, List.mem_singleton]
  have loop : codeAny (model X.prog X.w) X.A (.compLoop (.ListComp (.Name x px2) [⟨.Name x px, iter, [], 0⟩] scope pos) 0 (.ref a) (.ref S) ce)
      (compPost (model X.prog X.w) X.A X.xe none (fun v s' => ∃ y H', Inv X pins σ H' s' ∧ RelV y v ∧ Q y H') (.ref S) C) s4 := by
    refine loop_last (gens := [⟨.Name x px, iter, [], 0⟩]) rfl rfl (fun n s' => s'.heap.IsGen a g ∧ s'.heap.NoLimit ∧ ∃ gs, s'.gens[g]? = some gs ∧ gs.Goes (model X.prog X.w) X.A.in1 (fun n s₀ r s1 => ((r = .ok (.ret .none) ∨ r = .ok .next) ∧ (fun (_ : Nat) (_ : Shared) (s1 : Shared) => ∃ H' ys, s1.os = sc.os ∧ AllBare s1.gens ∧ Un (frs X.stack) [] H1 H' sc.heap s1.heap ∧ HOk X.prog X.w H' s1.heap ∧ (∀ b ∈ (compCns S C).Z, H' b = none) ∧ (compCns S C).W ys s1.heap ∧ ys.length ≤ sizeLine ∧ ∀ p, H' p = none → Q (.ref p) (upd H' p (.lst ys))) n s₀ s1) ∨ ∃ e, r = .error e ∧ (fun (_ : Value) (_ : Shared) => False) e s1) (YIz sc (compCns S C) a g) n (.send .none) (s'.setGen g .running)) ?_ sizeLine ?_
    · rintro n s5 ⟨hg5, hl5, gs, hgs5, hgo⟩
      have hgl : g < s5.gens.size := (Array.getElem?_eq_some_iff.mp hgs5).1
      refine wpAny_gsz (n := g + 1) hgl (next_genG (Er := fun _ _ => False) (F := (fun (_ : Nat) (_ : Shared) (s1 : Shared) => ∃ H' ys, s1.os = sc.os ∧ AllBare s1.gens ∧ Un (frs X.stack) [] H1 H' sc.heap s1.heap ∧ HOk X.prog X.w H' s1.heap ∧ (∀ b ∈ (compCns S C).Z, H' b = none) ∧ (compCns S C).W ys s1.heap ∧ ys.length ≤ sizeLine ∧ ∀ p, H' p = none → Q (.ref p) (upd H' p (.lst ys))))
        (I2.ok.hd hc) hl5 (by have := hr.dp; omega) hg5 hgs5 (Y := YIz sc (compCns S C) a g) (n := n) hgo (fun v s6 gs' hbare hv => ?_) (fun s6 hp h' hk => ?_) fun e s6 he => he.elim)
      · intro hsz
        obtain ⟨os6, hb6, hl6, hg6, ys, y, hn, ry, ⟨⟨acc, cc, hS6, hv6⟩, m6, hm6⟩, hk⟩ := hv
        refine wpAny_pure ?_
        refine wpAny_assign_Name (wpAny_storeName_local (m := m6) cX (by rw [cL]; exact hm6) (fun h7 hn7 sb7 => ?_) (by rw [cK]; rfl))
        rw [cL] at hn7 sb7
        refine wpAny_tests_nil ?_
        rw [if_pos rfl]
        refine wpAny_Name (wpAny_loadName_local (v := v) cK cX (by rw [cL]; exact hn7) (if_pos rfl) ?_) hd
        have hS7 : h7.get? S = some { cls := .type "list", data := .seq acc cc } := (sb7.2 S hSC).trans hS6
        have hacc : acc.size ≤ sizeLine := by
          have e1 := hv6.length
          have e2 : acc.toList.length = acc.size := by simp
          omega
        refine append_at (hsz := hacc) hS7 fun h8 sb8 hS8 => ?_
        have kp68 : ∀ b o, b ≠ S → b ≠ C → s6.heap.get? b = some o → h8.get? b = some o := fun b o n1 n2 e => (sb8.2 b n1).trans ((sb7.2 b n2).trans e)
        have hsz6 : g < s6.gens.size := by
          have q : (s6.setGen g gs').gens.size = s6.gens.size := setGen_size _ _ _
          have hsz' : g + 1 ≤ (s6.setGen g gs').gens.size := hsz
          omega
        have nap : ∀ G : Array GenState, AllBare G → Nap (compCns S C) ys y s6 { s6.setGen g gs' with heap := h8, gens := G, toks := s6.toks + 1 } := fun G hG => by
          refine ⟨rfl, hG, fun b o hn e => kp68 b o (fun z => hn ((hmem b).mpr (.inl z))) (fun z => hn ((hmem b).mpr (.inr z))) e, ⟨acc.push v, cc + 1, hS8, ?_⟩, fun z => if z = x then some v else m6 z, ?_⟩
          · rw [Array.toList_push]; exact hv6.append (.cons ry .nil)
          · obtain ⟨o, es, ep, ho, q⟩ := hn7
            exact ⟨o, es, ep, (sb8.2 C (Ne.symm hSC)).trans ho, q⟩
        cases n with
        | zero => exact False.elim (hk _ (nap _ (allBare_setGen (s := s6.setGen g gs') (g := g) (x := .running) (allBare_setGen hb6 hbare) rfl)))
        | succ n =>
          refine ⟨n, Nat.lt_succ_self _, ?_, ?_, gs', setGen_at hsz6, ?_⟩
          · obtain ⟨o, nm, qn, ho, q⟩ := hg6
            exact ⟨o, nm, qn, kp68 a o (Ne.symm hSa) (Ne.symm hCa) ho, q⟩
          · obtain ⟨mc, hns, hnn⟩ := hl6
            exact ⟨mc, hns.at' fun o e => kp68 _ o (Ne.symm hSs) (Ne.symm hCs) e, hnn⟩
          · exact (hk _ (nap _ (allBare_setGen (s := s6.setGen g gs') (g := g) (x := .running) (allBare_setGen hb6 hbare) rfl)))
      · intro hsz
        obtain ⟨H', ys, os6, hb6, un, hok, hz, ⟨⟨acc, cc, hS6, hv6⟩, m6, hm6⟩, hle, hQ⟩ := hp
        have hm' : h'.Ns C m6 := hm6.at' fun o e => hk _ _ e
        refine ⟨m6, hm', fun h'' sb => ?_⟩
        have hSn : H' S = none := hz S ((hmem S).mpr (.inl rfl))
        have hCn : H' C = none := hz C ((hmem C).mpr (.inr rfl))
        have J : Inv X pins σ (upd H' S (.lst ys)) { s6.setGen g .finished with heap := h' } := I1.drained (s' := { s6.setGen g .finished with heap := h' }) (ex := []) (by rw [← eS]; exact szle) hle (hk _ _ hS6) hv6 ExOk.nil os6 (allBare_setGen hb6 rfl) (un.trans (Un.kept hk)) (hok.kept hk) hSn
        obtain ⟨f0, f1, f2, f3, f4, f5⟩ := I1.fpOk (b := C) (H' := upd H' S (.lst ys)) (by rw [eC1, ← eS]; exact Nat.le_succ_of_le szle) (by rw [upd_ne (Ne.symm hSC)]; exact hCn)
        exact ⟨.ref S, _, J.turned (t' := s6.toks) (fun b o hb e => (sb.2 b hb).trans e) f0 f1 f3 f4 f5, rfl, hQ S hSn⟩
    · refine ⟨?_, ?_, .fresh c, by rw [gen4]; exact hgs, ?_⟩
      · obtain ⟨o, nm, qn, ho, q⟩ := hg
        exact ⟨o, nm, qn, kp14 a o ho, q⟩
      · exact hl.keeps kp14
      · refine ⟨rfl, seg_imp (fun n s₀ r s1 hR => .inl hR) (fun n s₀ v s1 kap kap' hkk ⟨q1, q2, q3, q4, ys, y, q5, q6, q7, q8⟩ => ⟨q1, q2, q3, q4, ys, y, q5, q6, q7, fun s' z => hkk _ _ (q8 s' z)⟩) sizeLine (wake X.A.in1 (compCns S C) _ ⟨I2.ok.hd hc, ?_, ?_⟩ I2.ok.frames (fun b hb => ?_) kp14 ⟨⟨#[], 0, atS, .nil⟩, m0, hm0⟩ (os4.trans hos) (allBare_setGen (s := s4) (by rw [gen4]; exact hb) rfl))⟩
        · have := hr.dp
          show X.A.depth + 3 * k + 5 < _
          omega
        · have := hr.un
          show X.A.units + 1 + 16 * k + 200 < _
          omega
        · rcases (hmem b).mp hb with z | z
          · rw [z, ← eS]; exact Nat.le_refl _
          · rw [z, eC1, ← eS]; exact Nat.le_succ _
  exact codeAny_compStart_list loop (wpAny_pyIter_gen (by
    obtain ⟨o, nm, qn, ho, q⟩ := hg
    exact ⟨o, nm, qn, kp14 a o ho, q⟩) loop)
end
end DD

namespace DD
open PySem PySem.Spec PyProof.Rows L2 GenW

/-! ### generators' bodies over data -/
abbrev FGn := List D → ES → Option (Out × List D × ES)
def GPost (c : Ct) (Z : GEnds) (e' : ES) (ds : List D) : Out → Prop
  | .nx => ∀ σ' H' ys, Rel c σ' H' e' → DqAll c.K (hid (OO c σ' e'.sl) H') ys ds → Z.nx ys σ' H'
  | .bk => ∀ σ' H' ys, Rel c σ' H' e' → DqAll c.K (hid (OO c σ' e'.sl) H') ys ds → Z.bk ys σ' H'
  | .ct => ∀ σ' H' ys, Rel c σ' H' e' → DqAll c.K (hid (OO c σ' e'.sl) H') ys ds → Z.ct ys σ' H'
  | .rt r => ∀ σ' v H' ys, Rel c σ' H' e' → DqAll c.K (hid (OO c σ' e'.sl) H') ys ds → RvR c σ' H' e'.sl v r → Z.rt ys v H'
  | .rtL _ => False
def tGn (c : Ct) (g : FGn) : TGn := fun Z ys σ H => ∃ e ds, Rel c σ H e ∧ DqAll c.K (hid (OO c σ e.sl) H) ys ds ∧ ∃ o ds' e', g ds e = some (o, ds', e') ∧ GPost c Z e' ds' o
structure DGS (X : Cx) (st : Stmt) (g : FGn) : Prop where
  gs : ∀ c : Ct, c.K = X.K → GSz X st (tGn c g)
structure DGB (X : Cx) (st : List Stmt) (g : FGn) : Prop where
  gb : ∀ c : Ct, c.K = X.K → GBz X st (tGn c g)
theorem gsz_imp {X : Cx} {st : Stmt} {t t' : TGn} (h : GSz X st t) (i : ∀ Z ys σ H, t' Z ys σ H → t Z ys σ H) : GSz X st t' :=
  ⟨fun A B ip R n ys s₀ c fs K J gd lv s σ H Z g hn k hI q => h.run A B ip R n ys s₀ c fs K J gd lv s σ H Z g hn k hI (i Z ys σ H q)⟩
theorem gbz_imp {X : Cx} {st : List Stmt} {t t' : TGn} (h : GBz X st t) (i : ∀ Z ys σ H, t' Z ys σ H → t Z ys σ H) : GBz X st t' :=
  ⟨fun A B ip R n ys s₀ c fs K J gd lv s σ H Z g hn k hI q => h.run A B ip R n ys s₀ c fs K J gd lv s σ H Z g hn k hI (i Z ys σ H q)⟩
theorem ps_ex {X : Cx} {st : Stmt} {g : FS} (h : DS X st g) : PS X st (fun Z σ H => ∃ c : Ct, c.K = X.K ∧ tS c g Z σ H) := ⟨fun pins s σ H Z I ⟨c, hc, q⟩ => (h.ps c hc).run pins s σ H Z I q⟩
def yPl (g : FS) : FGn := fun ds e => match g e with
  | some (o, e') => some (o, ds, e')
  | none => none
def ySeq (f g : FGn) : FGn := fun ds e => match f ds e with
  | some (.nx, ds1, e1) => g ds1 e1
  | r => r
def yNil : FGn := fun ds e => some (.nx, ds, e)
def yYield (f : FX) : FGn := fun ds e => match f e with
  | some (r, e1) => (match fz r e1 with
    | some (d, e2) => if ds.length < 16000000 then some (.nx, ds ++ [d], e2) else none
    | none => none)
  | none => none
def loopY (gt : FG) (body : FGn) : List D → FGn
  | [], ds, e => some (.nx, ds, e)
  | d :: r, ds, e => match gt d e with
    | some e1 => (match body ds e1 with
      | some (.nx, ds2, e2) => loopY gt body r ds2 e2
      | some (.ct, ds2, e2) => loopY gt body r ds2 e2
      | some (.bk, ds2, e2) => some (.nx, ds2, e2)
      | some (o, ds2, e2) => some (o, ds2, e2)
      | none => none)
    | none => none
def yFor (fi : FL) (gt : FG) (body : FGn) : FGn := fun ds e => match fi e with
  | some (xs, e1) => loopY gt body xs ds e1
  | none => none
section
variable {X : Cx} {st : Stmt} {rest : List Stmt}
theorem dgs_plain {g : FS} (h : DS X st g) : DGS X st (yPl g) := by
  refine ⟨fun c hc => gsz_imp (gz_plain (ps_ex h)) fun Z ys σ H q => ?_⟩
  obtain ⟨e, ds, R, hy, o, ds', e', he, post⟩ := q
  unfold yPl at he
  cases q1 : g e with
  | none => rw [q1] at he; cases he
  | some p =>
  obtain ⟨o1, e1⟩ := p
  rw [q1] at he
  cases he
  refine ⟨c.pin σ e H, hc, e, R.pin, _, _, q1, ?_⟩
  cases o with
  | nx => exact fun σ' H' R' => post σ' H' ys (R.unpin R') (dpAll_mono (R.pin_le R') hy)
  | bk => exact fun σ' H' R' => post σ' H' ys (R.unpin R') (dpAll_mono (R.pin_le R') hy)
  | ct => exact fun σ' H' R' => post σ' H' ys (R.unpin R') (dpAll_mono (R.pin_le R') hy)
  | rt r => exact fun σ' v H' R' hr => post σ' v H' ys (R.unpin R') (dpAll_mono (R.pin_le R') hy) (by cases r <;> exact hr)
  | rtL xs => exact post.elim
theorem dgb_nil : DGB X [] yNil := by
  refine ⟨fun c hc => gbz_imp gz_nil fun Z ys σ H q => ?_⟩
  obtain ⟨e, ds, R, hy, o, ds', e', he, post⟩ := q
  cases he
  exact post σ H ys R hy
theorem dgb_cons {f g : FGn} (a : DGS X st f) (b : DGB X rest g) : DGB X (st :: rest) (ySeq f g) := by
  refine ⟨fun c hc => gbz_imp (gz_cons (a.gs c hc) (b.gb c hc)) fun Z ys σ H q => ?_⟩
  obtain ⟨e, ds, R, hy, o, ds', e', he, post⟩ := q
  unfold ySeq at he
  cases q1 : f ds e with
  | none => rw [q1] at he; cases he
  | some p =>
  obtain ⟨o1, d1, e1⟩ := p
  rw [q1] at he
  refine ⟨e, ds, R, hy, o1, d1, e1, q1, ?_⟩
  cases o1 with
  | nx => exact fun σ' H' ys' R' hy' => ⟨e1, d1, R', hy', o, ds', e', he, post⟩
  | bk => cases he; exact post
  | ct => cases he; exact post
  | rt r => cases he; exact post
  | rtL xs => cases he; exact post
theorem dgb_one {f : FGn} (a : DGS X st f) : DGB X [st] f := by
  refine ⟨fun c hc => gbz_imp ((dgb_cons a dgb_nil).gb c hc) fun Z ys σ H q => ?_⟩
  obtain ⟨e, ds, R, hy, o, ds', e', he, post⟩ := q
  refine ⟨e, ds, R, hy, o, ds', e', ?_, post⟩
  unfold ySeq
  rw [he]
  cases o <;> rfl
theorem dgs_yield {x : Expr} {f : FX} {yp pos : Pos} (h : DE X x f) (hco : X.env.scope.isCoroutine = false := by rfl) (hi : interactive X.env = false := by rfl) : DGS X (.Expr (.Yield (some x) yp) pos) (yYield f) := by
  refine ⟨fun c hc => gsz_imp (gz_yield (h.pe c hc) hco hi) fun Z ys σ H q => ?_⟩
  obtain ⟨e, ds, R, hy, o, ds', e', he, post⟩ := q
  unfold yYield at he
  cases q1 : f e with
  | none => rw [q1] at he; cases he
  | some p =>
  obtain ⟨r, e1⟩ := p
  rw [q1] at he; dsimp only at he
  cases q2 : fz r e1 with
  | none => rw [q2] at he; cases he
  | some p =>
  obtain ⟨d, e2⟩ := p
  rw [q2] at he; dsimp only at he
  split at he
  · rename_i hl
    cases he
    refine ⟨by rw [dpAll_len hy, sizeLine_eq]; omega, e, R, r, e1, q1, fun v H1 S hr => ?_⟩
    obtain ⟨S2, hd⟩ := fz_ok S.rel hr q2
    exact post σ H1 (ys ++ [v]) S2.rel (dpAll_app (dpAll_mono (S.trans S2).same hy) (.cons hd .nil))
  · cases he
theorem gbz_ex {g : FGn} (h : DGB X rest g) : GBz X rest (fun Z ys σ H => ∃ c : Ct, c.K = X.K ∧ tGn c g Z ys σ H) :=
  ⟨fun A B ip R n ys s₀ c fs K J gd lv s σ H Z g hn k hI ⟨c', hc, q⟩ => (h.gb c' hc).run A B ip R n ys s₀ c fs K J gd lv s σ H Z g hn k hI q⟩
theorem GPost.unpin {c : Ct} {σ : Sg} {e : ES} {Hs : Hp} {Z : GEnds} {e' : ES} {ds : List D} (R0 : Rel c σ Hs e) : ∀ {o : Out}, GPost c Z e' ds o → GPost (c.pin σ e Hs) Z e' ds o
  | .nx, h => fun σ' H' ys R hy => h σ' H' ys (R0.unpin R) hy
  | .bk, h => fun σ' H' ys R hy => h σ' H' ys (R0.unpin R) hy
  | .ct, h => fun σ' H' ys R hy => h σ' H' ys (R0.unpin R) hy
  | .rt r, h => fun σ' v H' ys R hy hr => h σ' v H' ys (R0.unpin R) hy (by cases r <;> exact hr)
  | .rtL _, h => h
theorem dgs_for {tg iter : Expr} {body : List Stmt} {fi : FL} {k : FG} {is : List Nat} {g : FGn} {pos : Pos} (hcm : X.calm = true) (hi : DI X tg iter fi) (hg : DG X tg is k) (hb : DGB X body g)
    (hs : ∀ x, foldedSetIterable iter X.env x = pure x := by intro _; rfl) : DGS X (.For tg iter body [] pos) (yFor fi k g) := by
  refine ⟨fun c hc => gsz_imp (gz_for hcm (hi.pi c hc) (pg_ex hg) (gbz_ex hb) hs) fun Z ys0 σ H q => ?_⟩
  obtain ⟨e, d0, R, hy0, o, dF, e', he, q⟩ := q
  unfold yFor at he
  cases q1 : fi e with
  | none => rw [q1] at he; cases he
  | some p =>
  obtain ⟨ds, e1⟩ := p
  rw [q1] at he; dsimp only at he
  refine ⟨e, R, ds, e1, q1, fun J H1 S wk => ?_⟩
  have R1 := S.rel
  refine ⟨fun i m ys σ' H' => ∃ ei di, i ≤ ds.length ∧ m = ds.length - i ∧ Rel (c.pin σ e1 H1) σ' H' ei ∧ DqAll c.K (hid (OO (c.pin σ e1 H1) σ' ei.sl) H') ys di ∧ loopY k g (ds.drop i) di ei = some (o, dF, e'),
    ⟨_, e1, d0, Nat.zero_le _, rfl, R1.pin, dpAll_mono S.same hy0, he⟩, ?_⟩
  rintro i m ys σ' H' ⟨ei, di, hil, rfl, Ri, hyi, hl⟩
  have w := wk (OO (c.pin σ e1 H1) σ' ei.sl) H' (R1.pin_le Ri) Ri.hidden
  by_cases hlt : i < ds.length
  · obtain ⟨d, hd⟩ : ∃ d, ds[i]? = some d := ⟨ds[i], by simp [hlt]⟩
    obtain ⟨w1, w2⟩ := w.2 i d hd
    refine .inr ⟨w1, fun ys2 σ2 H2 => ∃ e2 d2, Rel (c.pin σ e1 H1) σ2 H2 e2 ∧ DqAll c.K (hid (OO (c.pin σ e1 H1) σ2 e2.sl) H2) ys2 d2 ∧ loopY k g (ds.drop (i + 1)) d2 e2 = some (o, dF, e'),
      fun ys2 σ2 H2 ⟨e2, d2, R2, hy2, h2⟩ => ⟨ds.length - (i + 1), by omega, e2, d2, hlt, rfl, R2, hy2, h2⟩, fun x H'' y => ?_⟩
    obtain ⟨sm, hx⟩ := w2 x H'' y
    have hdr : ds.drop i = d :: ds.drop (i + 1) := by
      rw [List.drop_eq_getElem_cons hlt]
      congr 1
      exact (List.getElem?_eq_some_iff.mp hd).2
    rw [hdr] at hl
    unfold loopY at hl
    cases q2 : k d ei with
    | none => rw [q2] at hl; cases hl
    | some e2 =>
    rw [q2] at hl; dsimp only at hl
    have Rg := Ri.grow sm
    have hyg := dpAll_mono (hid_same0 (O := OO (c.pin σ e1 H1) σ' ei.sl) sm) hyi
    refine ⟨c.pin σ e1 H1, hc, ei, d, Rg, hx, e2, q2, fun σ2 R2 kp => ?_⟩
    have hy2 : DqAll c.K (hid (OO (c.pin σ e1 H1) σ2 e2.sl) H'') ys di := dpAll_mono (hid_same (fun a z => .inl (kp.sh a z)) fun _ _ _ h => h) hyg
    cases q3 : g di e2 with
    | none => rw [q3] at hl; cases hl
    | some p =>
    obtain ⟨o3, d3, e3⟩ := p
    rw [q3] at hl
    refine ⟨c.pin σ e1 H1, hc, e2, di, R2, hy2, o3, d3, e3, q3, ?_⟩
    cases o3 with
    | nx => exact fun σ3 H3 ys3 R3 hy3 => ⟨e3, d3, R3, hy3, hl⟩
    | ct => exact fun σ3 H3 ys3 R3 hy3 => ⟨e3, d3, R3, hy3, hl⟩
    | bk => cases hl; exact fun σ3 H3 ys3 R3 hy3 => q σ3 H3 ys3 (R1.unpin R3) hy3
    | rt r => cases hl; exact GPost.unpin (Z := { Z with nx := _, ct := _, bk := _ }) R1 (show GPost c { Z with nx := _, ct := _, bk := _ } _ _ (.rt r) from q)
    | rtL r => cases hl; exact q.elim
  · have ei' : i = ds.length := by omega
    subst ei'
    rw [List.drop_length] at hl
    cases hl
    exact .inl ⟨w.1, q σ' H' ys (R1.unpin Ri) hyi⟩
end
/-! ### generator defs -/
abbrev SpZ := List V → Hp → (List V → Hp → Prop) → Prop
def spG (K : PySem.W.Frag) (f : FPL) : SpZ := fun vs H Q => ∃ (O : Addr → Prop) (ds ys : List D), (∀ a, O a → H a ≠ none) ∧ DqAll K (hid O H) vs ds ∧ f ds = some ys ∧ ∀ ws H', Same H H' → DqAll K (hid O H') ws ys → Q ws H'
def callG (g : FGn) (n m : Nat) : FPL := fun ds => if ds.length = m then (match g [] (startE n ds none) with
  | some (.nx, ys, _) => some ys
  | some (.rt (.d .none), ys, _) => some ys
  | _ => none) else none
def varG (m : Nat) (f : FPL) : FPL := fun ds => if m ≤ ds.length ∧ ds.length ≤ 16000000 then f (ds.take m ++ [.tuple (ds.drop m)]) else none
section
variable {P : Program} {w : World} {K : PySem.W.Frag} {mg : Str → Option Value} {base : Heap} {x qual : Str} {params : Arguments} {body : List Stmt} {scope : Scope} {f : Addr} {fd : FuncData} {N ps : List Str} {k n m : Nat} {g : FGn}
abbrev BodyG (P : Program) (w : World) (K : PySem.W.Frag) (mg : Str → Option Value) (base : Heap) (N : List Str) (qual : Str) (scope : Scope) (f : Addr) (k : Nat) (body : List Stmt) (g : FGn) : Prop :=
  ∀ (cdv : Value) (A : Around) (outer : List Env) (s : Shared) (H : Hp) (E : XK) (pn : List (Addr × Obj)), Room k (A.deeper (envOfC qual scope s.heap.objs.size f cdv)) → DGB (gcxOf P w K mg base N qual scope f cdv A outer s H E pn).nox body g
theorem gen_body {vs : List V} {H : Hp} {Q : List V → Hp → Prop} (hn : N.length = n) (hmn : m ≤ n) (hb : BodyG P w K mg base N qual scope f k body g) (h : spG K (callG g n m) vs H Q) : GenBody P w K mg base N qual scope f k body vs H Q := by
  intro cdv A outer s E pn hr
  obtain ⟨O, ds, ys, ho, hd, hf, q⟩ := h
  unfold callG at hf
  split at hf
  · rename_i hl
    have R := rel_start (K := K) (N := N) ho hd hn (by omega)
    have fin : ∀ {σ' : L2.St} {H' : Hp} {ws : List V} {e' : ES}, Rel ⟨K, O, 0, false, H⟩ σ' H' e' → DqAll K (hid (OO ⟨K, O, 0, false, H⟩ σ' e'.sl) H') ws ys → Q ws H' := fun {σ' H' ws e'} R' hy =>
      q ws H' (fun a o h => R'.ext a o h fun z => by cases z) (dpAll_mono (hid_same (fun a z => .inl (.inl z)) fun _ _ _ h => h) hy)
    refine ⟨_, (hb cdv A outer s H E pn hr).gb ⟨K, O, 0, false, H⟩ rfl, startE n ds none, [], R, .nil, ?_⟩
    split at hf
    · rename_i ys' e' hg
      cases hf
      exact ⟨_, _, _, hg, fun σ' H' ws R' hy => fin R' hy⟩
    · rename_i ys' e' hg
      cases hf
      refine ⟨_, _, _, hg, fun σ' v H' ws R' hy hr => ⟨?_, fin R' hy⟩⟩
      cases hr; rfl
    · cases hf
  · cases hf
/-- a call's state behind the binding: as it was, or with the tuple of what is left over -/
def Bound (s sc : Shared) (H H1 : Hp) : Prop := (sc = s ∧ H1 = H) ∨ ∃ (rest : List V) (us : List Value), rest.length ≤ sizeLine ∧ Vals rest us ∧ sc = { s with heap := s.heap.push { cls := .type "tuple", data := .seq us.toArray } } ∧ H1 = upd H s.heap.objs.size (.tup rest)
def GFn1 (P : Program) (w : World) (K : PySem.W.Frag) (mg : Str → Option Value) (base : Heap) (k : Nat) (f : Addr) (g : FPL) : Prop :=
  ∀ (A : Around) (outer : List Env) (s : Shared) (H : Hp) (us : List Value) (vs : List V) (Q : List V → Hp → Prop), Room k A → Env0 P w K mg base A outer s H → Vals vs us → spG K g vs H Q →
    codeAny (model P w) A (.call (.ref f) ⟨us, []⟩) (fun r s' => ∃ H1 sc, Bound s sc H H1 ∧ GRet P w k outer H1 sc Q r s') s
theorem gfn_V {pv : Str} {kws : List (Str × V)} (F : FunD K x qual params body scope [] kws f fd) (S : GScope N (ps ++ [pv]) scope) (hn : N.length = n) (hm : ps.length = m) (hb : BodyG P w K mg base N qual scope f k body g)
    (hbind : ∀ (kV doc pm : Value) (an : Option Addr) (cdv ct : Value) (us rest : List Value), us.length = ps.length → bindArgs (PySem.W.fnOf x qual params body scope .none kV doc pm an cdv ct) ⟨us ++ rest, []⟩ = (newTuple rest >>= fun t => pure (ps.zip us ++ [(pv, t)]))) :
    GFn1 P w K mg base (k + 1) f (varG m (callG g n (m + 1))) := by
  have hnm : m + 1 ≤ n := by have := congrArg List.length S.pre; rw [List.length_take, List.length_append, List.length_singleton] at this; omega
  obtain ⟨oc, od, dV, kV, doc, pm, an, cdv, ct, osl, rfl, lk, hcd, hD, hK⟩ := F.ex
  rcases hD with ⟨_, rfl⟩ | ⟨e, _⟩
  · intro A outer s H us vs Q hr e0 r h
    obtain ⟨O, ds, ys, ho, hd, hf, q⟩ := h
    unfold varG at hf
    split at hf
    · rename_i hl
      have e1 := dpAll_len hd
      obtain ⟨h1, h2⟩ := split_dp m hd
      obtain ⟨u1, u2, rfl, r1, r2⟩ := StX.vals_split (ws := vs.take m) (rest := vs.drop m) (by rw [List.take_append_drop]; exact r)
      have hl1 : u1.length = ps.length := by rw [← r1.length, List.length_take]; omega
      have hl2 : (vs.drop m).length ≤ sizeLine := by rw [List.length_drop, sizeLine_eq]; omega
      have KX : K.In s.heap := e0.mod.kin.keeps fun b o e => (e0.bs b o e).1
      have hfr : H s.heap.objs.size = none := e0.hok.fresh (Nat.le_refl _)
      refine codeAny_call_generator hr.depth (KX _ _ lk) rfl S.co S.gen rfl (PySem.W.codeRec_of KX hcd) ?_
      rw [hbind kV doc pm an cdv ct u1 u2 hl1]
      refine wpAny_bind (wpAny_newTuple (wpAny_pure ?_) (by rw [← r2.length]; exact hl2))
      have e2 := StX.env0_laid (o := ({ cls := .type "tuple", data := .seq u2.toArray } : Obj)) (u := .tup (vs.drop m)) e0 ⟨hl2, u2, r2, ⟨_, Heap.get?_push_size _ rfl, rfl, _, rfl⟩⟩
      have zz : (ps ++ [pv]).zip (u1 ++ [Value.ref s.heap.objs.size]) = ps.zip u1 ++ [(pv, Value.ref s.heap.objs.size)] := by rw [List.zip_append hl1.symm]; rfl
      rw [← zz]
      have sm : Same H (upd H s.heap.objs.size (.tup (vs.drop m))) := same_upd hfr
      refine wpAny_mono (gen_core (Q := Q) (vs := vs.take m ++ [.ref s.heap.objs.size]) (Ex := fun e s' => ∃ H1 sc, Bound s sc H H1 ∧ GRet P w (k + 1) outer H1 sc Q (.error e) s') S hr e2 (by rw [List.length_append, List.length_append, ← hl1, r1.length]; rfl) (r1.append (.cons (show RelV (V.ref s.heap.objs.size) (Value.ref s.heap.objs.size) from rfl) .nil)) (gen_body hn hnm hb ?_)) (fun env s2 z => ⟨z.1, _, _, .inr ⟨_, _, hl2, r2, rfl, rfl⟩, z.2⟩) fun _ _ z => z
      refine ⟨O, ds.take m ++ [.tuple (ds.drop m)], ys, fun a ha => ?_, dpAll_app (dpAll_mono (hid_same0 sm) h1) (.cons (new_tup ho hfr h2) .nil), hf, fun ws H' s2 hy => q ws H' (fun a o z => s2 a o (sm a o z)) hy⟩
      have hne : a ≠ s.heap.objs.size := fun z => by subst z; exact ho _ ha hfr
      rw [upd_ne hne]; exact ho a ha
    · cases hf
  · exact absurd rfl e
theorem gfn_P {dvs : List V} {kws : List (Str × V)} (F : FunD K x qual params body scope dvs kws f fd) (S : GScope N ps scope) (hn : N.length = n) (hm : ps.length = m) (hb : BodyG P w K mg base N qual scope f k body g)
    (hbind : Binds K fd ps []) : GFn1 P w K mg base (k + 1) f (callG g n m) := by
  have hnm : m ≤ n := by have := congrArg List.length S.pre; rw [List.length_take] at this; omega
  obtain ⟨oc, od, dV, kV, doc, pm, an, cdv, ct, osl, rfl, lk, hcd, hD, hK⟩ := F.ex
  intro A outer s H us vs Q hr e0 r h
  have hl : us.length = ps.length := by
    obtain ⟨O, ds, ys, ho, hd, hf, q⟩ := h
    unfold callG at hf
    split at hf
    · rename_i hl
      rw [← r.length, dpAll_len hd, hl, hm]
    · cases hf
  have KX : K.In s.heap := e0.mod.kin.keeps fun b o e => (e0.bs b o e).1
  have hu : us ++ [] = us := List.append_nil us
  refine codeAny_call_generator hr.depth (KX _ _ lk) rfl S.co S.gen rfl (PySem.W.codeRec_of KX hcd) ?_
  refine (hbind s us KX (by rw [hu]; exact hl)) _ _ _ _ ?_
  rw [hu]
  exact wpAny_mono (gen_core (Q := Q) (vs := vs) (Ex := fun e s' => ∃ H1 sc, Bound s sc H H1 ∧ GRet P w (k + 1) outer H1 sc Q (.error e) s') S hr e0 (by rw [← hl, r.length]) r (gen_body hn (by omega) hb h)) (fun env s2 z => ⟨z.1, _, _, .inl ⟨rfl, rfl⟩, z.2⟩) fun _ _ z => z
end
section
variable {X : Cx} {k : Nat} {f : Addr} {x nm : Str} {p pos lp lp2 : Pos} {a : Expr} {as : List Expr} {fa : FA} {g : FPL}
theorem bound_inv {pins : List (Addr × Obj)} {σ : Sg} {H H1 : Hp} {s sc : Shared} (I : Inv X pins σ H s) (b : Bound s sc H H1) : Inv X pins σ H1 sc := by
  rcases b with ⟨rfl, rfl⟩ | ⟨rest, us, hl, r, rfl, rfl⟩
  · exact I
  · exact I.laid (a := s.heap.objs.size) (o := .tup rest) (t' := s.toks) (fun b o e => Heap.get?_push_of_some _ e) (Nat.le_refl _) ⟨hl, us, r, ⟨_, Heap.get?_push_size _ rfl, rfl, _, rfl⟩⟩
theorem run_g1 {pins : List (Addr × Obj)} {σ : Sg} {H : Hp} {s : Shared} {us : List Value} {vs : List V} {cont : List V → Hp → Prop} {E : Value → Shared → Prop} (F : GFn1 X.prog X.w X.K X.mg X.base k f g) (hr : Room k X.A) (I : Inv X pins σ H s) (r : Vals vs us) (h : spG X.K g vs H cont) :
    wpAny (model X.prog X.w) X.A (call (.ref f) us) (fun u s' => ∃ H1 sc, Inv X pins σ H1 sc ∧ GMadeZ X.prog X.w k X.stack H1 sc cont u s') E s := by
  refine wpAny_call (codeAny_mono (F X.A X.stack s H us vs cont hr I.env0 r h) fun r s' hq => ?_)
  obtain ⟨H1, sc, b, q⟩ := hq
  cases r with
  | error e => exact q.elim
  | ok fl =>
    cases fl with
    | ret u => exact ⟨H1, sc, bound_inv I b, q⟩
    | _ => exact q.elim
/-- g(..), whether a star stands in it or not -/
theorem pgz_call (F : GFn1 X.prog X.w X.K X.mg X.base k f g) (hr : Room k X.A) (hm : X.mg x = some (.ref f)) (hk : PySem.W.keepIn X.K (.ref f) = true) {t : TA} (ha : PA X (a :: as) t) (hg : Gl X x := by rfl) (hdb : (x == ("__debug__" : Str)) = false := by decide)
    (he : starEach (a :: as) X.env = (false, eval a X.env) :: starEach as X.env := by rfl) (hpl : (backTo pos (starEach as X.env)).any (·.1) = false := by rfl) :
    PGenZ X k (.Call (.Name x p) (a :: as) [] pos) (fun σ H cont => t σ H fun vs H1 => spG X.K g vs H1 cont) := by
  refine ⟨fun pins s σ H cont I h => ?_⟩
  refine wpAny_Call_Name_kw (ld_glob I hg hm ?_ hdb)
  refine PySem.W.callWith_K (h₀ := X.base) I.ok.mod.kin hk (thn (ha.run pos pins s σ H _ I h) fun us s1 ⟨vs, H1, I1, r, q⟩ => ⟨I1.kIn, ?_⟩) he hpl
  exact run_g1 F hr I1 r q
theorem listG_imp {K : PySem.W.Frag} {c : Ct} {σ : Sg} {H : Hp} {Q : VK} (hc : c.K = K) (h : tL c (xFnL g fa) σ H Q) : tListG (fun σ H cont => tA c fa σ H fun vs H1 => spG K g vs H1 cont) σ H Q := by
  obtain ⟨e, R, rs, e1, h1, h2⟩ := xfnl_core (E := fun _ _ _ => False) hc h
  refine ⟨e, R, rs, e1, h1, fun vs H1 S hv => ?_⟩
  have z : spL K g (vs ++ []) H1 Q (fun _ _ _ => False) := h2 vs H1 S hv
  rw [List.append_nil] at z
  obtain ⟨O, ds, xs, ho, hd, hf, q⟩ := z
  refine ⟨O, ds, xs, ho, hd, hf, fun ws H' sm hy p hp => ?_⟩
  have h0 : H1 p = none := by
    cases e : H1 p with
    | none => rfl
    | some o => rw [sm p o e] at hp; cases hp
  refine q p ws _ h0 upd_same (fun a o e => same_upd hp a o (sm a o e)) (dpAll_mono (hid_same (fun a w => ?_) (fr_same (same_upd hp))) hy)
  rcases w with w | w
  · exact .inl w
  · subst w; exact .inr hp
theorem pass_false {X : Cx} : Passes (CX X.prog X.w) X (fun _ _ _ => False) := by
  intro pins σ H s e s' I h
  obtain ⟨a, B, H', cls, d, h1, h2, h3, h4, h5, h6, h7, h8⟩ := h
  exact h8.elim
/-- list(g(..)) -/
theorem dl_listG (F : GFn1 X.prog X.w X.K X.mg X.base k f g) (hr : Room (k + 3) X.A) (hm : X.mg x = some (.ref f)) (hk : PySem.W.keepIn X.K (.ref f) = true) (hml : X.mg "list" = none) (ha : DA X (a :: as) fa) (hg : Gl X x := by rfl) (hgl : Gl X "list" := by rfl) (hdb : (x == ("__debug__" : Str)) = false := by decide)
    (he : starEach (a :: as) X.env = (false, eval a X.env) :: starEach as X.env := by rfl) (hpl : (backTo pos (starEach as X.env)).any (·.1) = false := by rfl)
    (he2 : starEach [.Call (.Name x p) (a :: as) [] pos] X.env = (false, eval (.Call (.Name x p) (a :: as) [] pos) X.env) :: starEach [] X.env := by rfl) :
    DL X (.Call (.Name "list" lp) [.Call (.Name x p) (a :: as) [] pos] [] lp2) (xFnL g fa) :=
  ⟨fun c hc => pe_imp (pe_listG (nm := "list") (PGenZ.list (pgz_call F (hr.mono (by omega)) hm hk (ha.pa c hc) hg hdb he hpl)) pass_false (fun _ _ _ z => z.elim) hr hgl hml boot_list (by decide) (by decide) he2) fun σ H Q q => hc ▸ listG_imp rfl q⟩
/-- [x for x in g(..)] -/
theorem dl_compG {y : Str} {px px2 cp : Pos} {scope : Scope} (own : List (Str × Nat)) (hN : X.N.Nodup) (ok : BlkOk X.N X.env.scope scope own) (hx : scope.names.lookup y = some .local) (F : GFn1 X.prog X.w X.K X.mg X.base k f g) (hr : Room (k + 3) X.A) (hm : X.mg x = some (.ref f)) (hk : PySem.W.keepIn X.K (.ref f) = true)
    (ha : DA X (a :: as) fa) (hg : Gl X x := by rfl) (hdb : (x == ("__debug__" : Str)) = false := by decide) (hdy : (y == ("__debug__" : Str)) = false := by decide)
    (he : starEach (a :: as) X.env = (false, eval a X.env) :: starEach as X.env := by rfl) (hpl : (backTo pos (starEach as X.env)).any (·.1) = false := by rfl) (hc : X.calm = true := by rfl) (hs : ∀ z, foldedSetIterable (.Call (.Name x p) (a :: as) [] pos) X.env z = pure z := by intro _; rfl) :
    DL X (.ListComp (.Name y px2) [⟨.Name y px, .Call (.Name x p) (a :: as) [] pos, [], 0⟩] scope cp) (xFnL g fa) :=
  ⟨fun c hc' => pe_imp (pe_lcG (pgz_call F (hr.mono (by omega)) hm hk (ha.pa c hc') hg hdb he hpl) hc hN ok hx hr hdy hs) fun σ H Q q => hc' ▸ listG_imp rfl q⟩
end
end DD

namespace DD
open PySem PySem.Spec PyProof.Rows L2

/-! ### sets of tuples of texts, all apart -/
abbrev TKey := List Str
abbrev tkH (P : Program) (w : World) (k : TKey) : Int := tupleKeyHash (strKind P w) k
abbrev TkAt (P : Program) (w : World) (h : Heap) (k : TKey) (b : Addr) : Prop := IsTupleKey (strKind P w) h k b
section
variable {P : Program} {w : World} {A : Around} {E : Value → Shared → Prop} {s : Shared}
theorem tk_strs {k : TKey} {vs : List Value} (h : ItemsAre (strKind P w) k vs) : ∀ v ∈ vs, ∃ y t, v = Value.str y t := by
  induction h with
  | nil => intro v m; cases m
  | @cons k0 v0 ks vs h1 _ ih =>
    intro v m
    rcases List.mem_cons.mp m with rfl | m
    · cases v with
      | str y t => exact ⟨y, t, rfl⟩
      | _ => exact nomatch (show false = true from h1)
    · exact ih v m
theorem tk_keep {h h' : Heap} {k : TKey} {b : Addr} (x : TkAt P w h k b) (hk : ∀ o, h.get? b = some o → h'.get? b = some o) : TkAt P w h' k b := by
  obtain ⟨o, items, n, ho, r⟩ := x
  exact ⟨o, items, n, hk o ho, r⟩
theorem tk_class {k : TKey} {b : Addr} {Q : Bool → Shared → Prop} (hk : TkAt P w s.heap k b) (h : Q false s) : wpAny (model P w) A (ofAClassStatement 8 (.ref b)) Q E s := by
  have hT := hk.typeIs
  obtain ⟨o, items, n, ho, _, hd, hi⟩ := hk
  unfold ofAClassStatement
  refine wpAny_bind (wpAny_typeOf hT ?_)
  have e : (("tuple" : String) == "tuple") = true := by decide
  simp only [e, if_true, Bool.not_true, Bool.false_eq_true, if_false]
  try refine wpAny_bind (wpAny_pure ?_)
  show wpAny _ _ (seqItems? (.ref b) >>= _) _ _ s
  refine wpAny_bind (wpAny_seqItems ho hd (wpAny_bind ?_))
  show wpAny _ _ (forIn items _ _) _ _ s
  rw [← Array.forIn_toList]
  refine wpAny_forIn_list _ (fun rest r s' => (r.1 = none ∧ s' = s) ∧ ∀ v ∈ rest, ∃ y t, v = Value.str y t) _ ?_ ?_ _ _ ⟨⟨rfl, rfl⟩, tk_strs hi⟩
  · rintro v rest r s' ⟨⟨hr, rfl⟩, hall⟩
    obtain ⟨y, t, rfl⟩ := hall v List.mem_cons_self
    have e1 : ofAClassStatement 7 (.str y t) = pure false := rfl
    rw [e1]
    refine wpAny_bind (wpAny_pure ?_)
    simp only [Bool.false_eq_true, if_false]
    exact wpAny_pure ⟨⟨rfl, rfl⟩, fun u m => hall u (List.mem_cons_of_mem _ m)⟩
  · rintro ⟨r1, r2⟩ s' ⟨⟨hr, rfl⟩, _⟩
    simp only at hr
    subst hr
    exact wpAny_pure h
theorem tk_byval {k : TKey} {b : Addr} {Q : Bool → Shared → Prop} (hk : TkAt P w s.heap k b) (h : ∀ r, Q r s) : wpAny (model P w) A (hashByValue 8 (.ref b)) Q E s := by
  have hT := hk.typeIs
  obtain ⟨o, items, n, ho, _, hd, hi⟩ := hk
  unfold hashByValue
  refine wpAny_bind (wpAny_specialOf hT F.slot_tuple_hash.lookup ?_)
  show wpAny _ _ (seqItems? (.ref b) >>= _) _ _ s
  refine wpAny_bind (wpAny_seqItems ho hd (wpAny_bind ?_))
  show wpAny _ _ (forIn items _ _) _ _ s
  rw [← Array.forIn_toList]
  refine wpAny_forIn_list _ (fun rest r s' => (r.1 = none ∧ s' = s) ∧ ∀ v ∈ rest, ∃ y t, v = Value.str y t) _ ?_ ?_ _ _ ⟨⟨rfl, rfl⟩, tk_strs hi⟩
  · rintro v rest r s' ⟨⟨hr, rfl⟩, hall⟩
    obtain ⟨y, t, rfl⟩ := hall v List.mem_cons_self
    have e1 : hashByValue 7 (.str y t) = pure false := rfl
    rw [e1]
    refine wpAny_bind (wpAny_pure ?_)
    simp only [Bool.not_false, if_true]
    exact wpAny_pure (wpAny_pure (h _))
  · rintro ⟨r1, r2⟩ s' ⟨⟨hr, rfl⟩, _⟩
    simp only at hr
    subst hr
    exact wpAny_pure (h _)
theorem tk_unseen {k : TKey} {b : Addr} {Q : Bool → Shared → Prop} (hk : TkAt P w s.heap k b) {ys : List Value} (hy : ∀ y ∈ ys, ∃ k' c, y = Value.ref c ∧ TkAt P w s.heap k' c) (h : Q false s) :
    wpAny (model P w) A (searchCouldBeSeen (.ref b) ys) Q E s := by
  unfold searchCouldBeSeen
  refine wpAny_bind ?_
  refine wpAny_forIn_list _ (fun rest r s' => (r.1 = none ∧ s' = s) ∧ ∀ y ∈ rest, ∃ k' c, y = Value.ref c ∧ TkAt P w s.heap k' c) _ ?_ ?_ _ _ ⟨⟨rfl, rfl⟩, hy⟩
  · rintro v rest r s' ⟨⟨hr, rfl⟩, hall⟩
    obtain ⟨k', c, rfl, hc⟩ := hall v List.mem_cons_self
    have more : ∀ y ∈ rest, ∃ k' c, y = Value.ref c ∧ TkAt P w s'.heap k' c := fun u m => hall u (List.mem_cons_of_mem _ m)
    dsimp only
    by_cases hv : (b == c || (carriedByValue (.ref b) && carriedByValue (.ref c))) = true
    · exact wp_if_pos hv (wpAny_pure ⟨⟨rfl, rfl⟩, more⟩)
    · refine wp_if_neg hv ?_
      refine wpAny_bind (wpAny_eqIsQuiet_tuple hk ?_)
      simp only [Bool.not_true, Bool.false_eq_true, if_false]
      refine wpAny_bind (wpAny_eqIsQuiet_tuple hc ?_)
      simp only [Bool.not_true, Bool.false_eq_true, if_false]
      refine wpAny_bind (tk_class hk ?_)
      simp only [Bool.false_eq_true, if_false]
      refine wpAny_bind (tk_class hc ?_)
      simp only [Bool.false_eq_true, if_false]
      exact wpAny_pure ⟨⟨rfl, rfl⟩, more⟩
  · rintro ⟨r1, r2⟩ s' ⟨⟨hr, rfl⟩, _⟩
    simp only at hr
    subst hr
    exact wpAny_pure h

abbrev TRow := Addr × TKey
abbrev rowV (P : Program) (w : World) (p : TRow) : Int × Value := (tkH P w p.2, Value.ref p.1)
abbrev hsOf (P : Program) (w : World) (L : List TRow) : List Int := L.map fun p => tkH P w p.2
structure TSet (P : Program) (w : World) (h : Heap) (a : Addr) (L : List TRow) (es : Array (Int × Value)) (ep : Nat) (t : SetTable) : Prop where
  obj : ∃ o, h.get? a = some o ∧ o.ExactSet ∧ o.data = .set es ep t
  rows : es.toList = L.map (rowV P w)
  tab : TabOk t (hsOf P w L)
  keys : ∀ p ∈ L, TkAt P w h p.2 p.1
  led : w.params.followText "set-order" = true ∨ t.led = true
  room : L.length * 5 < t.mask * 3
  few : L.length < 64
variable {a : Addr} {L : List TRow} {es : Array (Int × Value)} {ep : Nat} {t : SetTable}
theorem rows_size {es : Array (Int × Value)} {L : List TRow} (h : es.toList = L.map (rowV P w)) : es.size = L.length := by
  have := congrArg List.length h
  simpa using this
theorem TSet.fits (R : TSet P w s.heap a L es ep t) : t.fits es.size = true := by
  have h1 := R.tab.sz
  have h2 := rows_size R.rows
  have h3 := R.room
  rw [List.length_map] at h1
  unfold SetTable.fits SetTable.fill
  rw [R.tab.dm, Bool.and_eq_true, beq_iff_eq, decide_eq_true_eq]
  refine ⟨by omega, ?_⟩
  show t.place.size + 0 ≤ t.mask
  omega
theorem TSet.entry (R : TSet P w s.heap a L es ep t) {i : Nat} {p : TRow} (h : L[i]? = some p) : es[i]? = some (rowV P w p) := by
  rw [← Array.getElem?_toList, R.rows, List.getElem?_map, h]; rfl
theorem not_gave {t : SetTable} (h : MaskOk t.mask) : ¬ t.gaveWay = true := by
  unfold SetTable.gaveWay
  rw [mask_odd h]
  decide
theorem nth_dummy (m : Nat) : ∀ (n : Nat) (p : SetTable.Probe), p.dummy = none → (nth m p n).dummy = none
  | 0, _, h => h
  | n + 1, p, h => by
    refine nth_dummy m n (adv m p) ?_
    unfold adv
    split <;> exact h
abbrev start (m : Nat) (h : Int) : SetTable.Probe := runAt m (SetTable.bits h % (m + 1)) (SetTable.bits h)

/-- a key that isn't there: the search ends at the first empty slot of its way -/
theorem find_new (R : TSet P w s.heap a L es ep t) {x : Addr} {k : TKey} (hx : TkAt P w s.heap k x) (hnew : k ∉ L.map (·.2)) (hu : A.units < cLine) {K : Nat} (hKf : K < 10 * SetTable.turns t.mask)
    (hK : way t.mask (tkH P w k) K ∉ t.place.toList) (hKb : ∀ c, c < K → way t.mask (tkH P w k) c ∈ t.place.toList) {Q : SetFound → Shared → Prop} (hQ : Q (.free (way t.mask (tkH P w k) K) false) s) :
    ∀ (f c : Nat) (st : Option SetTable.Probe), st.getD (t.probeStart (tkH P w k)) = nth t.mask (start t.mask (tkH P w k)) c → c ≤ K → K - c < f →
      wpAny (model P w) A (setSearchFrom a (.ref x) (tkH P w k) true f st) Q E s
  | 0, c, st, _, _, hf => absurd hf (Nat.not_lt_zero _)
  | f + 1, c, st, hst, hc, hf => by
    obtain ⟨o, ho, hex, hd⟩ := R.obj
    rw [setSearchFrom_succ]
    refine wpAny_bind (wpAny_setState_of ho hd R.fits ?_)
    dsimp only
    refine wp_if_neg (not_gave R.tab.mok) ?_
    try refine wpAny_bind (wpAny_pure ?_)
    have sh : ∀ q, nth t.mask (nth t.mask (start t.mask (tkH P w k)) c) q = nth t.mask (start t.mask (tkH P w k)) (c + q) := fun q => (nth_add t.mask c _ q).symm
    have e1 : ∀ q, (nth t.mask (nth t.mask (start t.mask (tkH P w k)) c) q).j = way t.mask (tkH P w k) (c + q) := fun q => congrArg SetTable.Probe.j (sh q)
    have spec := go_spec t R.tab.ris R.tab.dm (fun i => (es[i]?.map (·.1)).getD 0) (tkH P w k) (10 * SetTable.turns t.mask) (K - c) _ (nth_dummy t.mask c (start t.mask (tkH P w k)) rfl) (by omega)
      (fun q hq => by rw [e1]; exact hKb (c + q) (by omega)) (by rw [e1, show c + (K - c) = K by omega]; exact hK)
    rcases spec with ⟨q, i, hq, hi, hh, _, hpr⟩ | ⟨_, hpr⟩
    · have hpr' : t.probe (fun i => (es[i]?.map (·.1)).getD 0) (tkH P w k) (st.getD (t.probeStart (tkH P w k))) = some (.candidate (way t.mask (tkH P w k) (c + q)) i (nth t.mask (start t.mask (tkH P w k)) (c + (q + 1)))) := by
        rw [hst, ← e1, ← sh]
        exact hpr
      rw [hpr']
      dsimp only
      rw [e1] at hi
      have hil : i < L.length := by
        have h1 : i < t.place.toList.length := (List.getElem?_eq_some_iff.mp hi).1
        have h2 := R.tab.sz
        rw [List.length_map] at h2
        rw [Array.length_toList] at h1
        omega
      have hp : L[i]? = some L[i] := List.getElem?_eq_getElem hil
      generalize hpe : L[i] = p at hp
      have hmem : p ∈ L := List.mem_of_getElem? hp
      have hpt := R.keys p hmem
      have hkk : p.2 ≠ k := fun e => hnew (List.mem_map.mpr ⟨p, hmem, e⟩)
      have rest : wpAny (model P w) A (searchRest a (.ref x) (tkH P w k) true f es t (way t.mask (tkH P w k) (c + q)) i (nth t.mask (start t.mask (tkH P w k)) (c + (q + 1)))) Q E s := by
        unfold searchRest
        rw [R.entry hp]
        dsimp only
        refine wpAny_bind (wpAny_holding (wpAny_eqBool_tuple hu hpt hx ?_))
        refine wpAny_bind (wpAny_setState_of ho hd R.fits ?_)
        dsimp only
        refine wp_if_neg (by simp [hkk]) ?_
        try refine wpAny_bind (wpAny_pure ?_)
        rw [sameMem]
        dsimp only
        have hsl : t.slot (way t.mask (tkH P w k) (c + q)) = .live i := slot_live R.tab.ris hi
        simp only [if_true, hsl, R.entry hp]
        refine wpAny_bind (wpAny_isSame_ref_self (wpAny_bind (wpAny_pure ?_)))
        simp only [if_true]
        refine wp_if_neg (by simp [hkk]) ?_
        exact find_new R hx hnew hu hKf hK hKb hQ f (c + (q + 1)) _ rfl (by omega) (by omega)
      by_cases hl : t.led = true
      · refine wp_if_neg (by simp [hl]) ?_
        try refine wpAny_bind (wpAny_pure ?_)
        exact rest
      · refine wp_if_pos (by simp [hl]) ?_
        refine wpAny_bind (tk_unseen hx (fun y hy => ?_) ?_)
        · obtain ⟨e, he, ee⟩ := List.mem_map.mp hy
          have he1 : e ∈ es ∧ e.1 = tkH P w k := by simpa using he
          have he2 : e ∈ es.toList := by simpa using he1.1
          rw [R.rows] at he2
          obtain ⟨p2, hp2, e2⟩ := List.mem_map.mp he2
          exact ⟨p2.2, p2.1, by rw [← ee, ← e2], R.keys p2 hp2⟩
        · refine wp_if_neg (by decide) ?_
          try refine wpAny_bind (wpAny_pure ?_)
          exact rest
    · have hpr' : t.probe (fun i => (es[i]?.map (·.1)).getD 0) (tkH P w k) (st.getD (t.probeStart (tkH P w k))) = some (.empty (way t.mask (tkH P w k) K) none) := by
        have e2 : way t.mask (tkH P w k) K = (nth t.mask (nth t.mask (start t.mask (tkH P w k)) c) (K - c)).j := by
          rw [e1, show c + (K - c) = K by omega]
        rw [hst, e2]
        exact hpr
      rw [hpr']
      exact wpAny_pure hQ
theorem seek_new (R : TSet P w s.heap a L es ep t) {x : Addr} {k : TKey} (hx : TkAt P w s.heap k x) (hnew : k ∉ L.map (·.2)) (hu : A.units < cLine) {Q : SetFound → Shared → Prop}
    (hQ : ∀ K, way t.mask (tkH P w k) K ∉ t.place.toList → (∀ c, c < K → way t.mask (tkH P w k) c ∈ t.place.toList) → Q (.free (way t.mask (tkH P w k) K) false) s) :
    wpAny (model P w) A (setSearch a (.ref x) (tkH P w k) true) Q E s := by
  have hroom := R.room
  obtain ⟨K, hKf, hK, hKb⟩ := R.tab.first (by rw [List.length_map]; omega) (tkH P w k)
  have hbig : K < 100000 := by
    have : 10 * SetTable.turns t.mask ≤ 1420 := by
      unfold SetTable.turns
      rcases R.tab.mok with e | e | e <;> omega
    omega
  unfold setSearch
  exact find_new R hx hnew hu hKf hK hKb (hQ K hK hKb) 100000 0 none rfl (Nat.zero_le _) (by omega)

theorem tk_same {h h' : Heap} {k : TKey} {a b : Addr} {o : Obj} {es : Array (Int × Value)} {ep : Nat} {t : SetTable} (hb : TkAt P w h k b) (ho : h.get? a = some o) (hd : o.data = .set es ep t) (hs : Heap.SameBut a h h') : TkAt P w h' k b := by
  refine tk_keep hb fun o' ho' => ?_
  have hne : b ≠ a := by
    rintro rfl
    obtain ⟨o2, items, n, h1, _, h2, _⟩ := hb
    rw [h1] at ho
    cases ho
    rw [hd] at h2
    exact nomatch h2
  exact (hs.2 b hne).trans ho'
end
end DD

namespace DD
open PySem PySem.Spec PyProof.Rows L2

section
variable {P : Program} {w : World} {A : Around} {E : Value → Shared → Prop} {s : Shared}
variable {a : Addr} {L : List TRow} {es : Array (Int × Value)} {ep : Nat} {t : SetTable}
/-- rows taken in another order -/
theorem rows_order {L : List TRow} {es : Array (Int × Value)} {order : Array Nat} (hr : es.toList = L.map (rowV P w)) (hp : order.toList.Perm (List.range L.length)) :
    ∃ L2 : List TRow, L2.Perm L ∧ (order.filterMap (es[·]?)).toList = L2.map (rowV P w) ∧ hsOf P w L2 = order.toList.map fun i => (es.map (·.1)).getD i 0 := by
  have hsz := rows_size hr
  have ent : ∀ i (h : i < L.length), es[i]? = some (rowV P w L[i]) := fun i h => by
    rw [← Array.getElem?_toList, hr, List.getElem?_map, List.getElem?_eq_getElem h]; rfl
  have key : ∀ l : List Nat, (∀ i ∈ l, i < L.length) → l.filterMap (fun i => es[i]?) = (l.filterMap fun i => L[i]?).map (rowV P w) ∧ hsOf P w (l.filterMap fun i => L[i]?) = l.map fun i => (es.map (·.1)).getD i 0 := by
    intro l
    induction l with
    | nil => intro _; exact ⟨rfl, rfl⟩
    | cons i l ih =>
      intro hl
      have hi := hl i List.mem_cons_self
      obtain ⟨e1, e2⟩ := ih fun j hj => hl j (List.mem_cons_of_mem _ hj)
      rw [List.filterMap_cons_some (ent i hi), List.filterMap_cons_some (List.getElem?_eq_getElem hi)]
      refine ⟨by rw [e1, List.map_cons], ?_⟩
      show _ :: hsOf P w _ = _
      rw [e2, List.map_cons]
      have e3 : (es.map (·.1))[i]? = some (tkH P w L[i].2) := by rw [Array.getElem?_map, ent i hi]; rfl
      rw [show (es.map (·.1)).getD i 0 = tkH P w L[i].2 by simp [Array.getD_eq_getD_getElem?, e3]]
  obtain ⟨e1, e2⟩ := key order.toList fun i hi => List.mem_range.mp (hp.mem_iff.mp hi)
  refine ⟨order.toList.filterMap fun i => L[i]?, ?_, by rw [Array.toList_filterMap]; exact e1, e2⟩
  have h2 : (List.range L.length).filterMap (fun i => L[i]?) = L := by
    have : ∀ n, n ≤ L.length → (List.range n).filterMap (fun i => L[i]?) = L.take n := by
      intro n
      induction n with
      | zero => intro _; rfl
      | succ n ih =>
        intro hn
        rw [List.range_succ, List.filterMap_append, ih (by omega), List.take_succ, List.getElem?_eq_getElem (by omega), List.filterMap_cons_some (List.getElem?_eq_getElem (by omega))]; rfl
    rw [this L.length (Nat.le_refl _), List.take_length]
  exact (hp.filterMap _).trans (List.Perm.of_eq h2)

/-- the table laid anew -/
theorem tset_relay {o : Obj} (ho : s.heap.get? a = some o) (hex : o.ExactSet) (hd : o.data = .set es ep t) (hrows : es.toList = L.map (rowV P w)) (T0 : TabOk t (hsOf P w L)) (hfl : L.length ≤ t.mask)
    (keys : ∀ p ∈ L, TkAt P w s.heap p.2 p.1) (ld : w.params.followText "set-order" = true ∨ t.led = true) (few : L.length < 64) {wanted M : Nat}
    (hw : SetTable.sizeAbove wanted - 1 = M) (hM : MaskOk M) (hw2 : SetTable.sizeAbove wanted ≤ 128) (hn : L.length * 5 < M * 3) {Q : Unit → Shared → Prop}
    (hQ : ∀ h' L' es' ep' t', Heap.SameBut a s.heap h' → TSet P w h' a L' es' ep' t' → L'.Perm L → Q () { s with heap := h' }) : wpAny (model P w) A (setRelay a wanted) Q E s := by
  have hsl := rows_size hrows
  have hps := T0.sz
  rw [List.length_map] at hps
  have hfits : t.fits es.size = true := by
    unfold SetTable.fits SetTable.fill
    rw [T0.dm, Bool.and_eq_true, beq_iff_eq, decide_eq_true_eq]
    refine ⟨by omega, ?_⟩
    show t.place.size + 0 ≤ t.mask
    omega
  obtain ⟨t', order, e, hp, T, em, el, _, _⟩ := relaid_ok t (hs := es.map (·.1)) (wanted := wanted) hw hM (by rw [Array.size_map, hsl]; omega)
  rw [Array.size_map, hsl] at hp
  obtain ⟨L2, r2, r1, r3⟩ := rows_order hrows hp
  rw [← r3] at T
  have hs2 : (order.filterMap (es[·]?)).size = es.size := by rw [rows_size r1, r2.length_eq, hsl]
  rw [setRelay_eq]
  refine wpAny_bind (wpAny_setState_of ho hd hfits ?_)
  dsimp only
  refine wp_if_neg (by rw [sizeLine_eq]; omega) ?_
  try refine wpAny_bind (wpAny_pure ?_)
  rw [e]
  dsimp only
  refine wpAny_bind ?_
  refine wp_if_neg (by rw [hs2]; simp) ?_
  try refine wpAny_bind (wpAny_pure ?_)
  refine wpAny_pure ?_
  dsimp only
  refine wpAny_storeSet_of ho hd ?_ (by rw [hs2, hsl, sizeLine_eq]; omega)
  have sb : Heap.SameBut a s.heap (s.heap.update a (Obj.putSet (order.filterMap (es[·]?)) t')) := Heap.SameBut.update ..
  refine hQ _ L2 (order.filterMap (es[·]?)) (ep + 1) t' sb ⟨⟨_, store_at ho hd, ⟨hex.1, hex.2.1, hex.2.2⟩, rfl⟩, r1, T, fun p hpm => tk_same (keys p (r2.mem_iff.mp hpm)) ho hd sb, by rw [el]; exact ld, ?_, by rw [r2.length_eq]; exact few⟩ r2
  rw [r2.length_eq, em]
  exact hn

/-- one more -/
theorem tset_add (R : TSet P w s.heap a L es ep t) {x : Addr} {k : TKey} (hx : TkAt P w s.heap k x) (hnew : k ∉ L.map (·.2)) (hu : A.units < cLine) (hfew : L.length + 1 < 64) {Q : Bool → Shared → Prop}
    (hQ : ∀ b h' L' es' ep' t', Heap.SameBut a s.heap h' → TSet P w h' a L' es' ep' t' → L'.Perm ((x, k) :: L) → Q b { s with heap := h' }) :
    wpAny (model P w) A (setAddHashed a (.ref x) (tkH P w k)) Q E s := by
  obtain ⟨o, ho, hex, hd⟩ := R.obj
  have hsl := rows_size R.rows
  have hroom := R.room
  unfold setAddHashed
  refine wpAny_holding ?_
  rw [show (100000 : Nat) = 99999 + 1 from rfl, setAddHashedIn_succ]
  refine wpAny_bind (wpAny_setState_of ho hd R.fits ?_)
  dsimp only
  refine wp_if_neg (by simp [byScan, Value.scannable]) ?_
  try refine wpAny_bind (wpAny_pure ?_)
  refine wpAny_bind (seek_new R hx hnew hu fun K hK hb => ?_)
  dsimp only
  refine wpAny_bind (wpAny_setState_of ho hd R.fits ?_)
  dsimp only
  obtain ⟨q1, q2, q3, q4, q5, q6, q7, q8, q9⟩ := R.tab.put hK hb
  generalize hpt : t.put (way t.mask (tkH P w k) K) = pt at q1 q3 q4 q5 q6 q7 q8 q9 ⊢
  obtain ⟨t1, p⟩ := pt
  dsimp only at q1 q3 q4 q5 q6 q7 q8 q9 ⊢
  subst q1
  generalize hpp : SetTable.below t.place (way t.mask (tkH P w k) K) = p at q2 q3 ⊢
  have pm : (L.take p ++ (x, k) :: L.drop p).Perm ((x, k) :: L) := put_perm L p (x, k)
  have hin : (SetTable.insertAt es p (tkH P w k, Value.ref x)).toList = (L.take p ++ (x, k) :: L.drop p).map (rowV P w) := by
    rw [SetTable.toList_insertAt, R.rows, List.map_append, List.map_cons, List.map_take, List.map_drop]
  have hhs : hsOf P w (L.take p ++ (x, k) :: L.drop p) = (hsOf P w L).take p ++ tkH P w k :: (hsOf P w L).drop p := by
    show List.map _ _ = _
    rw [List.map_append, List.map_cons, List.map_take, List.map_drop]
  rw [← hhs] at q3
  generalize SetTable.insertAt es p (tkH P w k, Value.ref x) = es1 at hin ⊢
  generalize L.take p ++ (x, k) :: L.drop p = L1 at pm q3 hin
  have hlen : L1.length = L.length + 1 := pm.length_eq
  have hes : es1.size = L.length + 1 := by rw [rows_size hin, hlen]
  have q9' : t1.fill = L.length + 1 := by rw [q9, List.length_map]
  -- whatever the table says of its keys' hashes
  have rest : ∀ t2 : SetTable, TabOk t2 (hsOf P w L1) → t2.mask = t.mask → t2.led = t.led → t2.fill = L.length + 1 → t2.tooFull = t1.tooFull →
      wpAny (model P w) A (do
        storeSet a es1 t2
        if !false && t2.tooFull then setRelay a (SetTable.grown (es.size + 1))
        return true) Q E s := by
    intro t2 T2 m2 l2 f2 _
    refine wpAny_bind (wpAny_storeSet_of ho hd ?_ (by rw [hes, sizeLine_eq]; omega))
    have sb : Heap.SameBut a s.heap (s.heap.update a (Obj.putSet es1 t2)) := Heap.SameBut.update ..
    have ho1 := store_at (es' := es1) (t' := t2) ho hd
    generalize s.heap.update a (Obj.putSet es1 t2) = h1 at sb ho1 ⊢
    have keys1 : ∀ p ∈ L1, TkAt P w h1 p.2 p.1 := fun p hp => by
      rcases List.mem_cons.mp (pm.mem_iff.mp hp) with e | hp
      · rw [e]; exact tk_same hx ho hd sb
      · exact tk_same (R.keys p hp) ho hd sb
    have ld1 : w.params.followText "set-order" = true ∨ t2.led = true := by rw [l2]; exact R.led
    by_cases hf : t2.tooFull = true
    · first
        | (refine wpAny_bind ?_; refine wp_if_pos (by simp [hf]) ?_)
        | (refine wp_if_pos (by simp [hf]) ?_; refine wpAny_bind ?_)
      have hfull : (L.length + 1) * 5 ≥ t2.mask * 3 := by
        have h := hf
        unfold SetTable.tooFull at h
        rw [decide_eq_true_eq, f2] at h
        exact h
      rw [hsl]
      have cases2 : (t.mask = 7 ∧ L.length = 4) ∨ (t.mask = 31 ∧ L.length = 18) := by
        rcases R.tab.mok with e | e | e
        · left; rw [m2, e] at hfull; rw [e] at hroom; exact ⟨e, by omega⟩
        · right; rw [m2, e] at hfull; rw [e] at hroom; exact ⟨e, by omega⟩
        · exfalso; rw [m2, e] at hfull; omega
      have go : ∀ M, SetTable.sizeAbove (SetTable.grown (L.length + 1)) - 1 = M → MaskOk M → SetTable.sizeAbove (SetTable.grown (L.length + 1)) ≤ 128 → (L.length + 1) * 5 < M * 3 →
          wpAny (model P w) A (setRelay a (SetTable.grown (L.length + 1))) (fun _ s' => wpAny (model P w) A (pure true) Q E s') E { s with heap := h1 } := fun M h1' h2' h3' h4' => by
        refine tset_relay (s := { s with heap := h1 }) ho1 ⟨hex.1, hex.2.1, hex.2.2⟩ rfl hin T2 (by rw [hlen, m2]; rcases cases2 with ⟨e, e2⟩ | ⟨e, e2⟩ <;> omega) keys1 ld1 (by rw [hlen]; exact hfew) h1' h2' h3' (by rw [hlen]; exact h4') ?_
        intro h2 L2 es2 ep2 t2 sb2 R2 pm2
        exact wpAny_pure (hQ true h2 L2 es2 ep2 t2 (sb.trans sb2) R2 (pm2.trans pm))
      rcases cases2 with ⟨_, e2⟩ | ⟨_, e2⟩
      · exact go 31 (by rw [e2, size_20]) (.inr (.inl rfl)) (by rw [e2, size_20]; decide) (by omega)
      · exact go 127 (by rw [e2, size_76]) (.inr (.inr rfl)) (by rw [e2, size_76]; decide) (by omega)
    · first
        | refine wp_if_neg (by simp [hf]) ?_
        | (refine wpAny_bind ?_; refine wp_if_neg (by simp [hf]) ?_; refine wpAny_pure ?_)
      refine wpAny_pure (hQ true h1 L1 es1 (ep + 1) t2 sb ⟨⟨_, ho1, ⟨hex.1, hex.2.1, hex.2.2⟩, rfl⟩, hin, T2, keys1, ld1, ?_, by rw [hlen]; exact hfew⟩ pm)
      have h := hf
      unfold SetTable.tooFull at h
      rw [decide_eq_true_eq, f2] at h
      rw [hlen]
      omega
  have hplain := rest { t1 with plain := false } ⟨q3.ris, q3.dm, q3.sz, q3.mok, q3.bd, q3.reach⟩ q4 q5 q9' rfl
  have hsame := rest t1 q3 q4 q5 q9' rfl
  by_cases hpl : t1.plain = true
  · first
      | (refine wpAny_bind ?_; refine wp_if_pos hpl ?_; refine tk_byval hx fun r => ?_)
      | refine wp_if_pos hpl (wpAny_bind (tk_byval hx fun r => ?_))
    cases r
    · simpa only [Bool.false_eq_true, if_false] using hplain
    · simpa only [if_true] using hsame
  · first
      | (refine wpAny_bind ?_; refine wp_if_neg hpl ?_; refine wpAny_pure ?_)
      | refine wp_if_neg hpl (wpAny_bind (wpAny_pure ?_))
      | refine wp_if_neg hpl ?_
    simpa only [if_true] using hsame
end
end DD

namespace DD
open PySem PySem.Spec PyProof.Rows L2

section
variable {P : Program} {w : World} {A : Around} {E : Value → Shared → Prop} {s : Shared}
theorem TSet.keep {h h' : Heap} {a : Addr} {L : List TRow} {es : Array (Int × Value)} {ep : Nat} {t : SetTable} (R : TSet P w h a L es ep t) (ha : ∀ o, h.get? a = some o → h'.get? a = some o) (hk : ∀ p ∈ L, TkAt P w h' p.2 p.1) : TSet P w h' a L es ep t := by
  obtain ⟨o, ho, r⟩ := R.obj
  exact ⟨⟨o, ha o ho, r⟩, R.rows, R.tab, hk, R.led, R.room, R.few⟩
abbrev set0 (w : World) : Obj := { cls := .type "set", dict := none, data := .set #[] 0 (.fresh 0 0 (!w.params.followText "set-order")) }
theorem tset_new {h : Heap} {a : Addr} (ho : h.get? a = some (set0 w)) : TSet P w h a [] #[] 0 (.fresh 0 0 (!w.params.followText "set-order")) where
  obj := ⟨_, ho, ⟨rfl, rfl, rfl⟩, rfl⟩
  rows := rfl
  tab := ⟨List.Pairwise.nil, rfl, rfl, .inl rfl, fun x hx => (by cases hx), fun i h j hi => (by simp at hi)⟩
  keys := fun p hp => (by cases hp)
  led := by
    show _ ∨ (!w.params.followText "set-order") = true
    cases w.params.followText "set-order"
    · exact .inr rfl
    · exact .inl rfl
  room := by show 0 * 5 < 7 * 3; decide
  few := by show 0 < 64; decide
theorem nodup_fresh {ks : List TRow} (nd : (ks.map (·.2)).Nodup) {i : Nat} {p : TRow} (h : ks[i]? = some p) : p.2 ∉ (ks.take i).map (·.2) := by
  intro m
  obtain ⟨q, hq, e⟩ := List.mem_map.mp m
  obtain ⟨j, hj, e2⟩ := List.getElem_of_mem hq
  have hj' : j < i := by
    have := hj
    rw [List.length_take] at this
    omega
  have hi : i < ks.length := (List.getElem?_eq_some_iff.mp h).1
  rw [List.getElem_take] at e2
  have hpi : ks[i] = p := (List.getElem?_eq_some_iff.mp h).2
  have h1 : (ks.map (·.2))[j]'(by rw [List.length_map]; omega) = (ks.map (·.2))[i]'(by rw [List.length_map]; omega) := by
    rw [List.getElem_map, List.getElem_map, e2, hpi, e]
  exact (List.pairwise_iff_getElem.mp nd) j i _ _ hj' h1
theorem take_one {α : Type} {l : List α} {i : Nat} {x : α} (h : l[i]? = some x) : (l.take (i + 1)).Perm (x :: l.take i) := by
  have e : l.take (i + 1) = l.take i ++ [x] := by rw [List.take_succ, h]; rfl
  rw [e]
  exact List.perm_append_singleton x _

/-- set.update's loop over keys all apart -/
theorem tset_loop {I : Addr} {fp wr : List Addr} {G : Array GenState → Array GenState → Prop} {n : Nat} {Pv : Nat → Value → Prop} {St : Nat → Shared → Prop} {R : Result → Shared → Prop}
    (W : WalksS P w A.in1 I fp wr G n Pv St) (S : Addr) (hSf : S ∉ fp) (ks : List TRow) (hn : n = ks.length) (hfew : ks.length < 64) (nd : (ks.map (·.2)).Nodup) (hval : ∀ i v, Pv i v → ∃ p, ks[i]? = some p ∧ v = .ref p.1)
    (h0 : Heap) (hk : ∀ p ∈ ks, TkAt P w h0 p.2 p.1) (hS0 : h0.get? S = none) (hw0 : ∀ b ∈ wr, h0.get? b = none) (hu : A.in1.units < cLine) :
    ∀ (k i : Nat) (s : Shared), n - i = k → i ≤ n → St i s → (∀ b o, h0.get? b = some o → s.heap.get? b = some o) → (∃ L es ep t, TSet P w s.heap S L es ep t ∧ L.Perm (ks.take i)) →
      (∀ s' L es ep t, Moved (S :: wr) G s s' → TSet P w s'.heap S L es ep t → L.Perm ks → (∀ b o, h0.get? b = some o → s'.heap.get? b = some o) → R (.ok (.ret .none)) s') →
      codeAny (model P w) A (.builtin "set.update.loop" ⟨[.ref S, .ref I], []⟩) R s := by
  have hSw : S ∉ wr := fun h => hSf (W.sub _ h)
  have hsub : ∀ b ∈ wr, b ∈ S :: wr := fun b hb => List.mem_cons_of_mem _ hb
  have keepM : ∀ {s s' : Shared}, Moved wr G s s' → (∀ b o, h0.get? b = some o → s.heap.get? b = some o) → ∀ b o, h0.get? b = some o → s'.heap.get? b = some o := fun hm hkp b o e =>
    hm.heap b o (fun hb => by rw [hw0 b hb] at e; cases e) (hkp b o e)
  intro k
  induction k with
  | zero =>
    intro i s hk' hi hst hkp ⟨L, es, ep, t, hS, g⟩ hR
    have hin : i = n := by omega
    subst hin
    refine codeAny_builtin F.entry_set_update_loop ?_
    rw [Around.under_plainId F.plain_set_update_loop _]
    show wpAny _ A.in1 (pyNext (.ref I) >>= _) _ _ s
    refine wpAny_bind (W.done s _ _ hst fun s' hm => ?_)
    show wpAny _ A.in1 (ret Value.none) _ _ s'
    have hkp' := keepM hm hkp
    rw [hn, List.take_length] at g
    exact wpAny_pure (hR s' L es ep t (hm.mono hsub) (hS.keep (fun o e => hm.heap S o hSw e) fun p hp => tk_keep (hk p (g.mem_iff.mp hp)) fun o e => hkp' _ o e) g hkp')
  | succ k ih =>
    intro i s hk' hi hst hkp ⟨L, es, ep, t, hS, g⟩ hR
    have hlt : i < n := by omega
    refine codeAny_builtin F.entry_set_update_loop ?_
    rw [Around.under_plainId F.plain_set_update_loop _]
    show wpAny _ A.in1 (pyNext (.ref I) >>= _) _ _ s
    refine wpAny_bind (W.item i s _ _ hlt hst fun v s' hP hst' hm => ?_)
    obtain ⟨p, hp, rfl⟩ := hval i v hP
    have hkp' := keepM hm hkp
    have sub : ∀ p ∈ L, p ∈ ks := fun p hp => List.mem_of_mem_take (g.mem_iff.mp hp)
    have hS' : TSet P w s'.heap S L es ep t := hS.keep (fun o e => hm.heap S o hSw e) fun q hq => tk_keep (hk q (sub q hq)) fun o e => hkp' _ o e
    have hx : TkAt P w s'.heap p.2 p.1 := tk_keep (hk p (List.mem_of_getElem? hp)) fun o e => hkp' _ o e
    have hnew : p.2 ∉ L.map (·.2) := fun m => nodup_fresh nd hp ((g.map (·.2)).mem_iff.mp m)
    have hLl : L.length ≤ i := by rw [g.length_eq, List.length_take]; omega
    show wpAny _ A.in1 (holding [Value.ref p.1] (setAdd S (.ref p.1)) >>= _) _ _ s'
    refine wpAny_bind (wpAny_holding ?_)
    unfold setAdd
    refine wpAny_holding ?_
    refine wpAny_bind (wpAny_pyHash_tuple hu hx ?_)
    refine tset_add (s := { s' with toks := s'.toks + (p.2.length + 1) }) hS' hx hnew hu (by omega) fun b h' L' es' ep' t' hsb hS2 pm => ?_
    have g' : L'.Perm (ks.take (i + 1)) := (pm.trans (g.cons p)).trans (take_one hp).symm
    have hkp2 : ∀ b o, h0.get? b = some o → h'.get? b = some o := fun b o e => (hsb.2 b (fun z => by rw [z, hS0] at e; cases e)).trans (hkp' b o e)
    refine wpAny_pure ⟨plainId_quiet F.plain_set_update_loop _, ih (i + 1) _ (by omega) hlt (W.frame _ s' _ _ hst' (Nat.le_add_right _ _) fun b hb o e => ?_) hkp2 ⟨L', es', ep', t', hS2, g'⟩ fun s'' L2 es2 ep2 t2 hm'' hS'' g'' hkp'' => ?_⟩
    · rw [hsb.2 b (fun h : b = S => hSf (by rw [← h]; exact hb))]; exact e
    · refine hR s'' L2 es2 ep2 t2 (Moved.trans W.gtrans ((hm.mono hsub).then_heap (Nat.le_add_right _ _) fun b o hb e => ?_) hm'') hS'' g'' hkp''
      rw [hsb.2 b (fun h : b = S => hb (by rw [h]; exact List.mem_cons_self))]; exact e

/-- set(xs), the keys all apart -/
theorem tset_call {l : Addr} {items : Array Value} (ks : List TRow) {Q : Value → Shared → Prop} (hh : A.handled = none) (hl : s.heap.IsList l items) (hit : items.toList = ks.map fun p => Value.ref p.1)
    (hk : ∀ p ∈ ks, TkAt P w s.heap p.2 p.1) (nd : (ks.map (·.2)).Nodup) (hfew : ks.length < 64) (hu : A.units + 3 < cLine)
    (h : ∀ (h' : Heap) (tk : Nat) L es ep t, TSet P w h' s.heap.objs.size L es ep t → L.Perm ks → (∀ b o, s.heap.get? b = some o → h'.get? b = some o) → Q (.ref s.heap.objs.size) { s with heap := h', toks := tk }) :
    wpAny (model P w) A (call (.type "set") [.ref l]) Q E s := by
  have hisz : items.size = ks.length := by
    have q := congrArg List.length hit
    simpa using q
  obtain ⟨c, tl, hmro⟩ := F.called_set.mro
  have hmade := F.called_set.made
  have hsub := F.called_set.sub
  refine wpAny_call (codeAny_of_tree ?_)
  show wpAny _ _ (callAny (.type "set") _) _ _ _
  refine wpAny_pure ⟨Code.quiet_builtin _ (by decide +kernel), codeAny_builtin F.entry_type_call ?_⟩
  rw [Around.under_plain (weight_type_call_type "set" [.ref l] []) rfl]
  have h1 := F.called_set.notType
  have h2 := F.called_set.canCreate
  have hct := F.typeCall_set_1 (.ref l)
  repeat (any_goals (first | assumption | wp_step))
  refine codeAny_mono (code_set_led1 (.ref l) (E := E) (Q₁ := fun obj s₁ => obj = .ref s.heap.objs.size ∧ s₁ = { s with heap := s.heap.push (set0 w) }) ⟨rfl, rfl⟩) fun r s₁ hr => ?_
  cases r with
  | error e => exact hr
  | ok fl =>
    cases fl with
    | ret obj =>
      obtain ⟨rfl, rfl⟩ := hr
      have hS : (s.heap.push (set0 w)).get? s.heap.objs.size = some (set0 w) := Heap.get?_push_size _ rfl
      have hT : Shared.TypeIs { s with heap := s.heap.push (set0 w) } (.ref s.heap.objs.size) "set" := ⟨_, hS, rfl⟩
      have hli := F.called_set.init.lookup
      have hbi := F.called_set.init.bind (.ref s.heap.objs.size)
      repeat (any_goals (first | assumption | wp_step))
      refine codeAny_mono (codeAny_call_builtin (R := wants (fun r s₂ => r = .none ∧ ∃ h' tk L es ep t, s₂ = { s with heap := h', toks := tk } ∧ TSet P w h' s.heap.objs.size L es ep t ∧ L.Perm ks ∧
          (∀ b o, s.heap.get? b = some o → h'.get? b = some o)) E) F.called_set.init.plain F.entry_set_init (check_set_init_1 hT ?_)) fun r₂ s₂ hr₂ => ?_
      · obtain ⟨ol, hol, hcl, nl, hdl⟩ := hl
        obtain ⟨ocls, odict, odata, oslots⟩ := ol
        simp only at hcl hdl
        subst hcl; subst hdl
        have hol' : (s.heap.push (set0 w)).get? l = some { cls := .type "list", dict := odict, data := .seq items nl, slots := oslots } := Heap.get?_push_of_some _ hol
        have hsls := F.sub_list_set
        have hslf := F.sub_list_frozenset
        have hne : (Value.type "list" == Value.type "dict") = false := by decide
        have hl1 : (s.heap.push (set0 w)).IsList l items := ⟨_, hol', rfl, nl, rfl⟩
        unfold Builtin.«set.__init__» noKeywords Builtin.Frozenset.updateFrom
        generalize hPI : pyIter = PI
        wp_walk
        subst hPI
        refine wpAny_pyIter_list hl1 ?_
        refine wpAny_bind (wpAny_runValue ?_)
        have hlS : l < s.heap.objs.size := Heap.lt_size hol
        have hh3 : A.in1.in1.in1.handled = none := by simp [hh]
        have hneI : l ≠ (s.heap.push (set0 w)).objs.size := by
          rw [Heap.size_push]; exact Nat.ne_of_lt (Nat.lt_succ_of_lt hlS)
        have hSf : s.heap.objs.size ∉ [(s.heap.push (set0 w)).objs.size, l] := by
          rw [Heap.size_push]; simp only [List.mem_cons, List.mem_singleton, List.not_mem_nil, or_false, not_or]
          exact ⟨Nat.ne_of_lt (Nat.lt_succ_self _), Nat.ne_of_gt hlS⟩
        have hval : ∀ (i : Nat) (v : Value), items[i]? = some v → ∃ p, ks[i]? = some p ∧ v = .ref p.1 := fun i v hv => by
          have q : items.toList[i]? = some v := by rw [Array.getElem?_toList]; exact hv
          rw [hit, List.getElem?_map] at q
          cases hq : ks[i]? with
          | none => rw [hq] at q; cases q
          | some p =>
            rw [hq] at q
            exact ⟨p, rfl, (Option.some.inj q).symm⟩
        have none_of : ∀ b, s.heap.objs.size ≤ b → s.heap.get? b = none := fun b hb => by
          cases q : s.heap.get? b with
          | none => rfl
          | some o => exact absurd (Nat.lt_of_lt_of_le (Heap.lt_size q) hb) (Nat.lt_irrefl _)
        refine tset_loop ((Walks.list hh3 _ l hneI items).toS) s.heap.objs.size
          hSf ks hisz hfew nd hval s.heap hk (none_of _ (Nat.le_refl _)) (fun b hb => none_of b (by
            rw [List.mem_singleton.mp hb, Heap.size_push]
            exact Nat.le_succ _)) hu (items.size - 0) 0 _ (by omega) (Nat.zero_le _)
          ⟨⟨_, Heap.get?_push_size _ rfl, rfl, rfl⟩, (hl1.push _)⟩ (fun b o e => Heap.get?_push_of_some _ (Heap.get?_push_of_some _ e)) ?hS0 ?hR
        case hS0 => exact ⟨[], #[], 0, _, tset_new (Heap.get?_push_of_some _ hS), List.Perm.refl _⟩
        case hR =>
          intro s' L es ep t hm hS' g' hkp
          obtain ⟨h', g2, d', tk', os'⟩ := s'
          have eg : g2 = s.gens := hm.gens
          have ed : d' = s.drawn := hm.drawn
          have eo : os' = s.os := hm.os
          subst eg; subst ed; subst eo
          show wpAny _ _ _ _ _ _
          refine wpAny_pure ?_
          show wpAny _ _ (ret Value.none) _ _ _
          exact wpAny_pure ⟨rfl, h', tk', L, es, ep, t, rfl, hS', g', hkp⟩
      · cases r₂ with
        | error e => exact hr₂
        | ok fl₂ =>
          cases fl₂ with
          | ret r =>
            obtain ⟨rfl, h', tk, L, es, ep, t, rfl, hS', g', hk'⟩ := hr₂
            repeat (any_goals (first | assumption | wp_step))
            exact h _ _ _ _ _ _ hS' g' hk'
          | _ => exact hr₂.elim
    | _ => exact hr.elim
end
end DD

namespace DD
open PySem PySem.Spec PyProof.Rows L2

/-! ### sorted(set(xs)), xs tuples of texts that ascend -/
def encK (k : TKey) : D := .tuple (k.map PyData.str)
abbrev ltK (a b : TKey) : Prop := PySem.W.dataLt (encK a) (encK b) = true
theorem alike_txts : ∀ x y : List Str, PySem.W.alikeAll (x.map PyData.str) (y.map PyData.str) = true
  | [], _ => by simp [PySem.W.alikeAll]
  | _ :: _, [] => by simp [PySem.W.alikeAll]
  | x :: xs, y :: ys => by
    show PySem.W.alikeAll (.str x :: xs.map .str) (.str y :: ys.map .str) = true
    rw [PySem.W.alikeAll, alike_txts xs ys]
    simp [PySem.W.alike]
theorem depth_txts : ∀ xs : List Str, PyData.depthAll (xs.map .str) = 0
  | [] => by simp [PyData.depthAll]
  | x :: xs => by
    show PyData.depthAll (.str x :: xs.map .str) = 0
    rw [PyData.depthAll, depth_txts xs]
    simp [PyData.depth]
theorem alike_K (a b : TKey) : PySem.W.alike (encK a) (encK b) = true := by
  unfold encK
  simp [PySem.W.alike, alike_txts]
theorem ltK_irrefl (a : TKey) : PySem.W.dataLt (encK a) (encK a) = false := lex_irrefl _
theorem reads_txts {P : Program} {w : World} {h : Heap} : ∀ {k : TKey} {vs : List Value}, ItemsAre (PySem.strKind P w) k vs → ReadsAll h vs (k.map PyData.str) []
  | _, _, .nil => .nil
  | _, _, .cons h1 t => by
    obtain ⟨u, rfl⟩ := Value.isStrOf_shape h1
    exact .cons (as := []) (.str _ u) (reads_txts t)
theorem reads_K {P : Program} {w : World} {h : Heap} {k : TKey} {b : Addr} (x : TkAt P w h k b) : Reads h (.ref b) (encK k) [] := by
  obtain ⟨o, items, n, h1, h2, h3, h4⟩ := x
  exact .tuple h1 h2 h3 (reads_txts h4)
theorem perm_map_inv {α β : Type} {f : α → β} {vs ws : List β} (p : vs.Perm ws) : ∀ L : List α, ws = L.map f → ∃ L1 : List α, L1.Perm L ∧ vs = L1.map f := by
  induction p with
  | nil =>
    intro L e
    cases L with
    | nil => exact ⟨[], .refl _, rfl⟩
    | cons => cases e
  | cons x _ ih =>
    intro L e
    cases L with
    | nil => cases e
    | cons y L =>
      rw [List.map_cons] at e
      injection e with e1 e2
      obtain ⟨L1, p1, e3⟩ := ih L e2
      exact ⟨y :: L1, p1.cons y, by rw [List.map_cons, e3, e1]⟩
  | swap x y l =>
    intro L e
    match L, e with
    | a :: b :: L, e =>
      simp only [List.map_cons] at e
      injection e with e1 e2
      injection e2 with e2 e3
      exact ⟨b :: a :: L, .swap a b L, by simp [e1, e2, e3]⟩
  | trans _ _ ih1 ih2 =>
    intro L e
    obtain ⟨L2, p2, e2⟩ := ih2 L e
    obtain ⟨L1, p1, e1⟩ := ih1 L2 e2
    exact ⟨L1, p1.trans p2, e1⟩
abbrev encR (p : TRow) : D := encK p.2
/-- rows that ascend are what sorting gives -/
theorem asc_sort {L ks : List TRow} (p : L.Perm ks) (asc : ks.Pairwise fun a b => ltK a.2 b.2) : L.mergeSort (PySem.W.dataLe false encR) = ks := by
  have tot : PySem.W.TotalLe (PySem.W.dataLe false encR) := PySem.W.sortLe_total _ false _
  have ea : ∀ a b : TRow, PySem.W.dataLe false encR a b = !PySem.W.dataLt (encR b) (encR a) := fun a b => by rw [PySem.W.dataLe_eq]; rfl
  have nlt : ∀ a b : TRow, ltK a.2 b.2 → PySem.W.dataLt (encR b) (encR a) = false := fun a b h => by
    cases e : PySem.W.dataLt (encR b) (encR a) with
    | false => rfl
    | true =>
      have : PySem.W.dataLt (encR a) (encR a) = true := lex_trans _ _ _ h e
      rw [ltK_irrefl] at this
      cases this
  refine List.Perm.eq_of_pairwise ?_ (PySem.W.sort_pairwise tot L) (asc.imp fun {a b} h => by rw [ea, nlt a b h]; rfl) ((List.mergeSort_perm _ _).trans p)
  intro a b ha hb h1 h2
  rw [ea, Bool.not_eq_true'] at h1 h2
  have ha' : a ∈ ks := p.mem_iff.mp ((List.mergeSort_perm _ _).mem_iff.mp ha)
  obtain ⟨i, hi, rfl⟩ := List.getElem_of_mem ha'
  obtain ⟨j, hj, rfl⟩ := List.getElem_of_mem hb
  rcases Nat.lt_trichotomy i j with q | q | q
  · have := (List.pairwise_iff_getElem.mp asc) i j hi hj q
    rw [show PySem.W.dataLt (encR ks[i]) (encR ks[j]) = true from this] at h2
    cases h2
  · subst q; rfl
  · have := (List.pairwise_iff_getElem.mp asc) j i hj hi q
    rw [show PySem.W.dataLt (encR ks[j]) (encR ks[i]) = true from this] at h1
    cases h1
theorem each_refs : ∀ {out : List Value} {ks : List TRow}, PySem.W.EachIs (fun v p => v = Value.ref p.1) out ks → out = ks.map fun p => Value.ref p.1
  | _, _, .nil => rfl
  | _, _, .cons e t => by rw [List.map_cons, e, each_refs t]
theorem refs_each : ∀ (ks : List TRow), PySem.W.EachIs (fun v p => v = Value.ref p.1) (ks.map fun p => Value.ref p.1) ks
  | [] => .nil
  | p :: ks => .cons rfl (refs_each ks)
section
variable {P : Program} {w : World} {A : Around} {E : Value → Shared → Prop} {s : Shared}
theorem tset_sorted {a : Addr} {L ks : List TRow} {es : Array (Int × Value)} {ep : Nat} {t : SetTable} {Q : Value → Shared → Prop} (R : TSet P w s.heap a L es ep t) (hh : A.handled = none) (hu : A.units + 8 < cLine)
    (pm : L.Perm ks) (asc : ks.Pairwise fun p q => ltK p.2 q.2) (hne : 2 ≤ ks.length → ∀ p ∈ ks, p.2 ≠ [])
    (hQ : ∀ s' p c, (∀ b o, s.heap.get? b = some o → s'.heap.get? b = some o) → s'.gens = s.gens → s'.os = s.os → s.heap.objs.size ≤ p →
      s'.heap.get? p = some (seqObj "list" (ks.map fun q => Value.ref q.1).toArray c) → Q (.ref p) s') :
    wpAny (model P w) A (call (.builtin "sorted") [.ref a]) Q E s := by
  obtain ⟨o, ho, hex, hd⟩ := R.obj
  have hsz := rows_size R.rows
  have hfew := R.few
  refine Calls.call_function_entry kind_sorted plain_sorted entry_sorted (args_sorted1 _) ?_
  unfold Builtin.«sorted»
  refine wpAny_bind (m := checkCount "sorted" 1 1 _) (wpAny_pure ?_)
  refine wpAny_bind (collect_set (A := A.in1) hh ⟨o, ho, hex.1, hd⟩ R.fits (by unfold scanBound; omega) R.tab.ris R.led fun s1 vs k1 hz g1 o1 pv => ?_)
  have hes : es.toList.map (·.2) = L.map fun q => Value.ref q.1 := by
    rw [R.rows, List.map_map]; rfl
  rw [hes] at pv
  obtain ⟨L1, p1, rfl⟩ := perm_map_inv pv L rfl
  have pk : L1.Perm ks := p1.trans pm
  have hl1 : L1.length = ks.length := pk.length_eq
  have hl2 : L1.length = L.length := p1.length_eq
  refine wpAny_bind (wpAny_newList ?_ (by rw [List.length_map, sizeLine_eq]; omega))
  have hoL : (s1.heap.push (seqObj "list" (L1.map fun q => Value.ref q.1).toArray 0)).get? s1.heap.objs.size = some (seqObj "list" (L1.map fun q => Value.ref q.1).toArray 0) := Heap.get?_push_size _ rfl
  have hk : ∀ q ∈ L1, TkAt P w (s1.heap.push (seqObj "list" (L1.map fun q => Value.ref q.1).toArray 0)) q.2 q.1 := fun q hq => tk_keep (R.keys q (p1.mem_iff.mp hq)) fun u e => Heap.get?_push_of_some _ (k1 _ u e)
  have fin : ∀ out : List Value, out = ks.map (fun q => Value.ref q.1) → ∃ c, (sortedHeap (s1.heap.push (seqObj "list" (L1.map fun q => Value.ref q.1).toArray 0)) s1.heap.objs.size (L1.map fun q => Value.ref q.1) out.toArray).get? s1.heap.objs.size = some (seqObj "list" (ks.map fun q => Value.ref q.1).toArray c) := fun out e => by
    obtain ⟨c, hc⟩ := sortedHeap_at (vs := L1.map fun q => Value.ref q.1) (out := out.toArray) hoL
    exact ⟨c, by rw [hc, e]⟩
  have old : ∀ (out : Array Value) b u, s.heap.get? b = some u → (sortedHeap (s1.heap.push (seqObj "list" (L1.map fun q => Value.ref q.1).toArray 0)) s1.heap.objs.size (L1.map fun q => Value.ref q.1) out).get? b = some u := fun out b u e => by
    have q := k1 b u e
    have hlt := Heap.lt_size q
    rw [sortedHeap_old (Nat.ne_of_lt hlt) (by rw [size_push']; exact Nat.lt_succ_of_lt hlt)]
    exact Heap.get?_push_of_some _ q
  have go : ∀ out : List Value, out = ks.map (fun q => Value.ref q.1) → wpAny (model P w) A.in1 (pure (PySem.Fin.done (.ret (.ref s1.heap.objs.size)))) (fun f s' => ∃ v, f = .done (.ret v) ∧ Q v s') E
      { s1 with heap := sortedHeap (s1.heap.push (seqObj "list" (L1.map fun q => Value.ref q.1).toArray 0)) s1.heap.objs.size (L1.map fun q => Value.ref q.1) out.toArray } := fun out e => by
    obtain ⟨c, hc⟩ := fin out e
    exact wpAny_pure ⟨_, rfl, hQ _ s1.heap.objs.size c (fun b u q => old _ b u q) g1 o1 hz hc⟩
  by_cases h2 : ks.length < 2
  · have swo : SrtO.Swo (fun _ _ : Value => false) := ⟨fun _ _ _ => rfl, fun _ _ _ _ _ => rfl⟩
    refine wpAny_bind (wpAny_holding (wpAny_call_entry slot_list_sort ⟨_, hoL, rfl⟩ entry_list_sort (SrtO.list_sort_ord (ltv := fun _ _ => false) (s := { s1 with heap := s1.heap.push (seqObj "list" (L1.map fun q => Value.ref q.1).toArray 0) }) swo hoL (by rw [List.length_map, sizeLine_eq]; omega) (fun z => absurd z (by rw [List.length_map]; omega)) fun out _ st => ⟨_, rfl, go out ?_⟩) (args_list_sort _)))
    have e1 : L1 = ks := by
      match ks, h2, pk with
      | [], _, pk => exact pk.eq_nil
      | [k], _, pk => exact List.perm_singleton.mp pk
    have p2 := st.perm
    rw [e1] at p2
    match ks, h2, p2 with
    | [], _, p2 => exact p2.eq_nil
    | [k], _, p2 => exact List.perm_singleton.mp p2
  · refine wpAny_bind (wpAny_holding (PySem.W.list_sort_data (s := { s1 with heap := s1.heap.push (seqObj "list" (L1.map fun q => Value.ref q.1).toArray 0) }) (bs := L1) (enc := encR) (R := fun v p => v = Value.ref p.1) hoL (refs_each L1) ?_ (PySem.W.AllAlike.of fun b b' => alike_K _ _) (.inl fun d hd => ?_) (by rw [sizeLine_eq]; omega) (fun b _ => ?_) fun out _ he => go out ?_))
    · have : ∀ L2 : List TRow, (∀ q ∈ L2, q ∈ L1) → PySem.W.EachIs (fun v b => ∃ as, Reads (s1.heap.push (seqObj "list" (L1.map fun q => Value.ref q.1).toArray 0)) v (encR b) as ∧ s1.heap.objs.size ∉ as) (L2.map fun q => Value.ref q.1) L2 := by
        intro L2
        induction L2 with
        | nil => intro _; exact .nil
        | cons p L2 ih =>
          intro h
          exact .cons ⟨[], reads_K (hk p (h p List.mem_cons_self)), by simp⟩ (ih fun q m => h q (List.mem_cons_of_mem _ m))
      exact this L1 fun q m => m
    · obtain ⟨q, hq, rfl⟩ := List.mem_map.mp hd
      have := hne (by omega) q (pk.mem_iff.mp hq)
      cases e : q.2 with
      | nil => exact absurd e this
      | cons y r => exact ⟨.str y, r.map .str, by show encK q.2 = _; rw [e]; rfl⟩
    · have : (encR b).depth = 1 := by
        show PyData.depth (.tuple _) = 1
        rw [PyData.depth, depth_txts]
      rw [this]
      show A.units + 1 + 1 + 1 < cLine
      omega
    · rw [asc_sort pk asc] at he
      exact each_refs he
end
end DD

namespace DD
open PySem PySem.Spec PyProof.Rows L2

structure TSet0 (P : Program) (w : World) (h : Heap) (a : Addr) (L : List TRow) : Prop where
  ex : ∃ (es : Array (Int × Value)) (ep : Nat) (t : SetTable), (∃ o, h.get? a = some o ∧ o.ExactSet ∧ o.data = .set es ep t) ∧ es.toList = L.map (rowV P w) ∧ TabOk t (hsOf P w L) ∧
    (w.params.followText "set-order" = true ∨ t.led = true) ∧ L.length * 5 < t.mask * 3 ∧ L.length < 64
def TSetO (P : Program) (w : World) (a : Addr) (L : List TRow) : HO := .ext fun h => TSet0 P w h a L
section
variable {P : Program} {w : World}
theorem TSet.t0 {h : Heap} {a : Addr} {L : List TRow} {es : Array (Int × Value)} {ep : Nat} {t : SetTable} (R : TSet P w h a L es ep t) : TSet0 P w h a L := ⟨es, ep, t, R.obj, R.rows, R.tab, R.led, R.room, R.few⟩
theorem TSet0.full {h : Heap} {a : Addr} {L : List TRow} (R : TSet0 P w h a L) (hk : ∀ p ∈ L, TkAt P w h p.2 p.1) : ∃ es ep t, TSet P w h a L es ep t := by
  obtain ⟨es, ep, t, h1, h2, h3, h4, h5, h6⟩ := R.ex
  exact ⟨es, ep, t, h1, h2, h3, hk, h4, h5, h6⟩
theorem tsetO_new {H : Hp} {h : Heap} {a : Addr} {L : List TRow} (R : TSet0 P w h a L) : ObjOk P w H h a (TSetO P w a L) := by
  obtain ⟨es, ep, t, ⟨o, ho, r⟩, q⟩ := R.ex
  refine ⟨R, ⟨o, ho⟩, fun h1 h2 p k => ?_⟩
  obtain ⟨es', ep', t', ⟨o', ho', r'⟩, q'⟩ := TSet0.ex p
  exact ⟨es', ep', t', ⟨o', k o' ho', r'⟩, q'⟩
theorem items_strs : ∀ {k : TKey} {us : List Value}, Vals (k.map V.str) us → ItemsAre (PySem.strKind P w) k us
  | [], _, .nil => .nil
  | y :: k, _, .cons r t => by
    obtain ⟨tk, rfl⟩ := r
    exact .cons (PySem.strKind_is P w y tk) (items_strs t)
theorem refs_vals : ∀ {ks : List TRow} {us : List Value}, Vals (ks.map fun p => V.ref p.1) us → us = ks.map fun p => Value.ref p.1
  | [], _, .nil => rfl
  | p :: ks, _, .cons r t => by
    cases r
    rw [refs_vals t]; rfl
theorem vals_refs : ∀ (ks : List TRow), Vals (ks.map fun p => V.ref p.1) (ks.map fun p => Value.ref p.1)
  | [] => .nil
  | p :: ks => .cons rfl (vals_refs ks)
end
section
variable {X : Cx}
theorem inv_tk {pins : List (Addr × Obj)} {σ : Sg} {H : Hp} {s : Shared} {b : Addr} {k : TKey} (I : Inv X pins σ H s) (h : SqT X.K H b (k.map V.str)) : TkAt X.prog X.w s.heap k b := by
  obtain ⟨its, r, ⟨o, ho, hc, n, hd⟩, _⟩ := I.tuple h
  exact ⟨o, its.toArray, n, ho, hc, hd, by simpa using items_strs r⟩
/-- set(xs), the tuples of texts all apart -/
def rSetS (K : PySem.W.Frag) (P : Program) (w : World) : List V → Hp → VK → Prop := fun xs H Q => ∃ (l : Addr) (ks : List TRow), xs = [V.ref l] ∧ SqL K H l (ks.map fun p => V.ref p.1) ∧ (∀ p ∈ ks, SqT K H p.1 (p.2.map V.str)) ∧ ks.length < 64 ∧ (ks.map (·.2)).Nodup ∧
  ∀ a L, H a = none → L.Perm ks → Q (.ref a) (upd H a (TSetO P w a L))
theorem cr_setS (hc : X.calm = true) (hu : X.A.units + 64 < cLine) : CallR X (.type "set") (rSetS X.K X.prog X.w) := by
  intro pins s σ H xs us Q I r h
  obtain ⟨l, ks, rfl, hl, hk, hf, nd, q⟩ := h
  rw [Vals.ref1 r]
  obtain ⟨its, rv, pl, hz⟩ := I.list hl
  have hn : H s.heap.objs.size = none := I.hok.fresh (Nat.le_refl _)
  refine tset_call (P := X.prog) (w := X.w) ks (I.ok.hd hc) pl.isList (by simpa using refs_vals rv) (fun p hp => inv_tk I (hk p hp)) nd hf (by omega) fun h' tk L es ep t R g k => ?_
  exact ⟨.ref s.heap.objs.size, upd H s.heap.objs.size (TSetO X.prog X.w s.heap.objs.size L), I.laid (t' := tk) k (Nat.le_refl _) (tsetO_new R.t0), rfl, q _ L hn g⟩
/-- sorted of such a set -/
def rSortS (K : PySem.W.Frag) (P : Program) (w : World) : List V → Hp → VK → Prop := fun vs H Q => ∃ (a : Addr) (L ks : List TRow), vs = [V.ref a] ∧ H a = some (TSetO P w a L) ∧ L.Perm ks ∧ (∀ p ∈ ks, SqT K H p.1 (p.2.map V.str)) ∧
  (ks.Pairwise fun p q => ltK p.2 q.2) ∧ (2 ≤ ks.length → ∀ p ∈ ks, p.2 ≠ []) ∧ ∀ p, H p = none → Q (.ref p) (upd H p (.lst (ks.map fun q => V.ref q.1)))
theorem cr_sortS (hc : X.calm = true) (hu : X.A.units + 64 < cLine) : CallR X (.builtin "sorted") (rSortS X.K X.prog X.w) := by
  intro pins s σ H vs us Q I r h
  obtain ⟨a, L, ks, rfl, ha, pm, hk, asc, hne, q⟩ := h
  have R0 : TSet0 X.prog X.w s.heap a L := (I.hok a _ ha).1
  obtain ⟨es, ep, t, R⟩ := R0.full fun p hp => inv_tk I (hk p (pm.mem_iff.mp hp))
  rw [Vals.ref1 r]
  refine tset_sorted R (I.ok.hd hc) (by omega) pm asc hne fun s' p c k g o hp hg => ?_
  have hlen : (ks.map fun q => V.ref q.1).length ≤ sizeLine := by
    have := R.few
    rw [List.length_map, ← pm.length_eq, sizeLine_eq]; omega
  have hn : H p = none := I.hok.fresh hp
  have J : Inv X pins σ (upd H p (.lst (ks.map fun q => V.ref q.1))) { s with heap := s'.heap, gens := s'.gens, drawn := s'.drawn, toks := s'.toks } :=
    I.call (ch := []) (Un.laid k hp hn) (I.hok.laid k hp ⟨hlen, _, c, vals_refs ks, hg⟩) (by rw [g]; exact I.bare) (fun _ z => nomatch z)
  have e : s' = { s with heap := s'.heap, gens := s'.gens, drawn := s'.drawn, toks := s'.toks } := by
    cases s'
    cases s
    cases o
    rfl
  rw [e]
  exact ⟨.ref p, _, J, rfl, q p hn⟩
end

/-! ### as data -/
def Asc (ds : List D) : Prop := ∃ kk : List TKey, ds = kk.map encK ∧ kk.length < 64 ∧ (2 ≤ kk.length → ∀ k ∈ kk, k ≠ []) ∧ kk.Pairwise ltK
open Classical in
noncomputable def gSortSet : List D → Option (List D)
  | [.list ds] => if Asc ds then some ds else none
  | _ => none
theorem dpAll_txts_inv {K : PySem.W.Frag} {H : Hp} : ∀ {k : TKey} {vs : List V}, DqAll K H vs (k.map PyData.str) → vs = k.map V.str
  | [], _, .nil => rfl
  | y :: k, _, .cons (.str _) b => by rw [dpAll_txts_inv b]; rfl
theorem rows_of {K : PySem.W.Frag} {H : Hp} : ∀ {kk : List TKey} {vs : List V}, DqAll K H vs (kk.map encK) → ∃ ks : List TRow, ks.map (·.2) = kk ∧ vs = ks.map (fun p => V.ref p.1) ∧ ∀ p ∈ ks, SqT K H p.1 (p.2.map V.str)
  | [], _, .nil => ⟨[], rfl, rfl, fun p hp => nomatch hp⟩
  | k :: kk, _, .cons (.tup (a := a) h1 h2) b => by
    obtain ⟨ks, e1, e2, e3⟩ := rows_of b
    refine ⟨(a, k) :: ks, by rw [List.map_cons, e1], by rw [List.map_cons, e2], fun p hp => ?_⟩
    rcases List.mem_cons.mp hp with rfl | hp
    · have e := dpAll_txts_inv h2
      subst e
      exact h1
    · exact e3 p hp
def rSS (K : PySem.W.Frag) (P : Program) (w : World) : List V → Hp → VK → Prop := fun xs H Q => rSetS K P w xs H fun v H1 => rSortS K P w [v] H1 Q
theorem calll_sortset {K : PySem.W.Frag} {P : Program} {w : World} : CallL K (rSS K P w) gSortSet := by
  intro O H xs ds ys Q ho h hg q
  unfold gSortSet at hg
  split at hg
  · rename_i ds0
    by_cases hA : Asc ds0
    · rw [if_pos hA] at hg
      cases hg
      obtain ⟨kk, rfl, hlen, hne, asc⟩ := hA
      obtain ⟨v, rfl, hv⟩ := rb1 h
      obtain ⟨a, vs, rfl, h1, h2⟩ := hv.list
      obtain ⟨ks, rfl, rfl, hk⟩ := rows_of h2
      have asc' : ks.Pairwise fun p q => ltK p.2 q.2 := List.pairwise_map.mp asc
      have hlen' : ks.length < 64 := by simpa using hlen
      have hk' : ∀ p ∈ ks, SqT K H p.1 (p.2.map V.str) := fun p hp => sqT_mono hid_le (hk p hp)
      refine ⟨a, ks, rfl, .of h1, hk', hlen', ?_, fun b L hb pm => ⟨b, L, ks, rfl, upd_same, pm, fun p hp => sqT_mono (same_upd hb) (hk' p hp), asc', fun z p hp => hne (by simpa using z) _ (List.mem_map.mpr ⟨p, hp, rfl⟩), fun p hp => ?_⟩⟩
      · refine List.Pairwise.imp (fun {a b} hlt e => ?_) asc
        subst e
        have := ltK_irrefl a
        rw [show PySem.W.dataLt (encK a) (encK a) = true from hlt] at this
        cases this
      · have hpb : p ≠ b := by
          rintro rfl
          rw [upd_same] at hp
          cases hp
        have hp0 : H p = none := by
          unfold upd at hp
          rw [if_neg hpb] at hp
          exact hp
        exact q p _ _ hp0 upd_same ((same_upd hb).trans (same_upd hp)) h2
    · rw [if_neg hA] at hg; cases hg
  · cases hg
section
variable {X : Cx} {fa : FA} {p p2 pos pos2 : Pos} {a : Expr}
theorem dl_sortset (hc : X.calm = true) (hu : X.A.units + 64 < cLine) (hm : X.mg "sorted" = none) (hm2 : X.mg "set" = none) (ha : DA X [a] fa)
    (hg : Gl X "sorted" := by rfl) (hg2 : Gl X "set" := by rfl)
    (he : starEach [a] X.env = (false, eval a X.env) :: starEach [] X.env := by rfl)
    (he2 : starEach [Expr.Call (.Name "set" p2) [a] [] pos2] X.env = (false, eval (.Call (.Name "set" p2) [a] [] pos2) X.env) :: starEach [] X.env := by rfl) :
    DL X (.Call (.Name "sorted" p) [.Call (.Name "set" p2) [a] [] pos2] [] pos) (xCallL gSortSet fa) :=
  ⟨fun c hk => pe_imp (pe_callB (cr_sortS hc hu) hg hm (by rfl) (pa_cons (pe_callTy (cr_setS hc hu) hg2 hm2 (by rfl) (ha.pa c hk) (he := he) (hpl := by rfl)) pa_nil he2) (he := he2) (hpl := by rfl)) fun σ H Q q => by
    have z : tCB (rSS X.K X.prog X.w) (tA c fa) σ H Q := xcalll_imp calll_sortset hk q
    exact z⟩
end
end DD

namespace DD
open PySem PySem.Spec PyProof.Rows L2

/-! ### sorted(d), the keys of a dict -/
section
variable {P : Program} {w : World} {A : Around} {E : Value → Shared → Prop} {s : Shared}
theorem walks_dk (hh : A.handled = none) (I d : Addr) (hne : d ≠ I) {o : Obj} {es : Array DictEntry} {ep : Nat} (hod : o.data = .dict es ep) :
    Walks P w A I [I, d] [I] es.size (fun i v => ∃ en, es[i]? = some en ∧ v = en.key) (fun i h => h.IsKeyIter I d i es.size ep ∧ h.get? d = some o) where
  sub := fun b hb => by simp at hb; simp [hb]
  frame := fun _ _ _ st hk => ⟨st.1.at fun o e => hk I (by simp) o e, hk d (by simp) _ st.2⟩
  item := fun i s Q E hi st hQ => by
    have hx : es[i]? = some es[i] := Array.getElem?_eq_getElem hi
    refine next_key_item st.1 st.2 hod rfl hx fun h' hit' hs' => ?_
    exact hQ _ h' s.toks ⟨_, hx, rfl⟩ ⟨hit', (hs'.2 d hne).trans st.2⟩ fun b o hb e => (hs'.2 b (fun z => hb (by simp [z]))).trans e
  done := fun s Q E st hQ => next_key_end hh st.1 st.2 hod rfl (Nat.le_refl _) fun h' he' => hQ h' s.toks fun b o hb e => he' b o (fun z => hb (by simp [z])) e
  self := fun _ _ _ _ st hQ => wpAny_pyIter_keyiter st.1 hQ
theorem src_dk {d : Addr} {o : Obj} {es : Array DictEntry} {ep : Nat} (lo : (d == sysModules) = false) (hx : o.ExactDict) (hod : o.data = .dict es ep) :
    PySem.W.KdlSrc P w "dict" d d es.size (fun i v => ∃ en, es[i]? = some en ∧ v = en.key) (fun h => h.get? d = some o) where
  type := fun _ hm => ⟨_, hm, hx.1⟩
  there := fun _ hm => ⟨Heap.lt_size hm, Heap.lt_size hm⟩
  keep := fun _ _ hm hk => hk d (.inl rfl) _ hm
  notList := by decide
  notTuple := by decide
  hint := fun _ _ _ _ hm hq => PySem.W.kdl_hint_dict ⟨_, hm, hx.1⟩ hq
  iter := fun _ _ hh hm => ⟨_, _, (fun _ _ hq => iter_keys lo hm hx hod hq), walks_dk hh _ d (Nat.ne_of_lt (Heap.lt_size hm)) hod, ⟨⟨_, Heap.get?_push_size _ rfl, rfl, rfl⟩, Heap.get?_push_of_some _ hm⟩⟩
end
/-- data of keys -/
theorem key_plain {d : D} {k : VKey} (h : keyOf d = some k) : d.plain = true := by
  cases d <;> first | cases h | skip
  rename_i ds
  have : ∀ (ds : List D) (k : VKey), okDs ds = some k → PyData.plainAll ds = true := by
    intro ds
    induction ds with
    | nil => intro _ _; rfl
    | cons d ds ih =>
      intro k h
      unfold okDs at h
      cases h1 : okD1 d with
      | none => rw [h1] at h; cases h
      | some x =>
        rw [h1] at h
        obtain ⟨k', h2, rfl⟩ := Option.map_eq_some_iff.mp h
        rw [PyData.plainAll, ih _ h2]
        cases d <;> first | rfl | cases h1
  rw [PyData.plain]
  exact this ds k h
theorem key_depth {d : D} {k : VKey} (h : keyOf d = some k) : d.depth ≤ 1 := by
  cases d <;> first | cases h | skip
  rename_i ds
  have : ∀ (ds : List D) (k : VKey), okDs ds = some k → PyData.depthAll ds = 0 := by
    intro ds
    induction ds with
    | nil => intro _ _; rfl
    | cons d ds ih =>
      intro k h
      unfold okDs at h
      cases h1 : okD1 d with
      | none => rw [h1] at h; cases h
      | some x =>
        rw [h1] at h
        obtain ⟨k', h2, rfl⟩ := Option.map_eq_some_iff.mp h
        rw [PyData.depthAll, ih _ h2]
        cases d <;> first | rfl | cases h1
  rw [PyData.depth, this ds k h]; exact Nat.le_refl _
theorem key_reads {h : Heap} {d : D} {k : VKey} {v : Value} {as : List Addr} (hk : keyOf d = some k) (r : Reads h v d as) : as = [] := by
  cases d <;> first | cases hk | skip
  rename_i ds
  cases r with
  | tuple h1 h2 h3 r =>
    have : ∀ (ds : List D) (k : VKey) (vs : List Value) (as : List Addr), okDs ds = some k → ReadsAll h vs ds as → as = [] := by
      intro ds
      induction ds with
      | nil => intro _ _ _ _ r; cases r; rfl
      | cons d ds ih =>
        intro k vs as h r
        unfold okDs at h
        cases h1 : okD1 d with
        | none => rw [h1] at h; cases h
        | some x =>
          rw [h1] at h
          obtain ⟨k', h2, rfl⟩ := Option.map_eq_some_iff.mp h
          cases r with
          | cons r1 r2 =>
            rw [ih _ _ _ h2 r2]
            cases r1 <;> first | rfl | cases h1
    exact this ds k _ _ hk r
abbrev leD : D → D → Bool := PySem.W.dataLe false (fun d : D => d)
/-- keys that can be sorted -/
def KeysOk (ks : List D) : Prop := (∀ d ∈ ks, (∃ x r, d = .tuple (x :: r)) ∧ ∃ k, keyOf d = some k) ∧ PySem.W.AllAlike ks
abbrev VD := V × D
abbrev encV (p : VD) : D := p.2
theorem sort_snd (bs : List VD) : (bs.mergeSort (PySem.W.dataLe false encV)).map (·.2) = (bs.map (·.2)).mergeSort leD := PySem.W.sort_maps (fun p : VD => p.2) fun _ _ _ _ => rfl
theorem each_rel : ∀ {out : List Value} {bs : List VD}, PySem.W.EachIs (fun u p => RelV p.1 u) out bs → Vals (bs.map (·.1)) out
  | _, _, .nil => .nil
  | _, _, .cons h t => .cons h (each_rel t)
section
variable {P : Program} {w : World} {A : Around} {E : Value → Shared → Prop} {s : Shared}
/-- sorted(d) -/
theorem sorted_dk {d : Addr} {o : Obj} {es : Array DictEntry} {ep : Nat} {bs : List VD} {Q : Value → Shared → Prop} (lo : (d == sysModules) = false) (ho : s.heap.get? d = some o) (hx : o.ExactDict) (hod : o.data = .dict es ep)
    (hh : A.handled = none) (hu : A.units + 8 < cLine) (hsz : es.size ≤ sizeLine) (e : PySem.W.EachIs (fun u (p : VD) => RelV p.1 u) (es.toList.map (·.key)) bs)
    (er : PySem.W.EachIs (fun u (p : VD) => Reads s.heap u p.2 []) (es.toList.map (·.key)) bs) (ok : KeysOk (bs.map encV))
    (hQ : ∀ s' p c out, (∀ b o, s.heap.get? b = some o → s'.heap.get? b = some o) → s'.gens = s.gens → s'.os = s.os → s'.drawn = s.drawn → (s.heap.get? p = none ∧ ∃ h1 : Heap, (∀ b o, s.heap.get? b = some o → h1.get? b = some o) ∧ h1.objs.size ≤ p) →
      s'.heap.get? p = some (seqObj "list" (List.toArray out) c) → Vals ((bs.mergeSort (PySem.W.dataLe false encV)).map (·.1)) out → Q (.ref p) s') :
    wpAny (model P w) A (call (.builtin "sorted") [.ref d]) Q E s := by
  refine Calls.call_function_entry kind_sorted plain_sorted entry_sorted (args_sorted1 _) ?_
  unfold Builtin.«sorted»
  refine wpAny_bind (m := checkCount "sorted" 1 1 _) (wpAny_pure ?_)
  refine wpAny_bind (PySem.W.kdu_collect (A := A.in1) (src_dk lo hx hod) hh ho hsz fun h' tk acc hk hacc => ?_)
  have hal : acc.toList = es.toList.map (·.key) := by
    apply List.ext_getElem
    · rw [Array.length_toList, List.length_map, Array.length_toList, hacc.1]
    · intro i h1 h2
      rw [Array.length_toList] at h1
      obtain ⟨en, q1, q2⟩ := hacc.2 i _ (Array.getElem?_eq_getElem h1)
      rw [Array.getElem_toList, q2, List.getElem_map]
      have : es.toList[i]? = some en := by rw [Array.getElem?_toList]; exact q1
      rw [List.getElem?_eq_getElem (by rw [List.length_map] at h2; exact h2)] at this
      rw [Option.some.inj this]
  rw [hal]
  have hlen : (es.toList.map (·.key)).length ≤ sizeLine := by rw [List.length_map, Array.length_toList]; exact hsz
  refine wpAny_bind (wpAny_newList ?_ hlen)
  have hoL : (h'.push (seqObj "list" (es.toList.map (·.key)).toArray 0)).get? h'.objs.size = some (seqObj "list" (es.toList.map (·.key)).toArray 0) := Heap.get?_push_size _ rfl
  have er' : PySem.W.EachIs (fun u (p : VD) => ∃ as, Reads (h'.push (seqObj "list" (es.toList.map (·.key)).toArray 0)) u (encV p) as ∧ h'.objs.size ∉ as) (es.toList.map (·.key)) bs :=
    er.mono fun u p r => ⟨[], PyProof.Rows.Reads.keeps (fun b o q => Heap.get?_push_of_some _ (hk b o q)) r, by simp⟩
  refine wpAny_bind (wpAny_holding (PySem.W.list_sort_data (s := { s with heap := h'.push (seqObj "list" (es.toList.map (·.key)).toArray 0), toks := tk }) (bs := bs) (enc := encV) (R := fun u p => RelV p.1 u) hoL e er' ok.2 (.inl fun d hd => (ok.1 d hd).1) (by rw [← e.length]; exact hlen) (fun b hb => ?_) fun out hl he => ?_))
  · obtain ⟨_, k, hk⟩ := ok.1 b.2 (List.mem_map.mpr ⟨b, hb, rfl⟩)
    have := key_depth hk
    show A.units + 1 + 1 + b.2.depth < cLine
    omega
  · obtain ⟨c, hc⟩ := sortedHeap_at (vs := es.toList.map (·.key)) (out := out.toArray) hoL
    refine wpAny_pure ⟨_, rfl, hQ _ h'.objs.size c out (fun b u q => ?_) rfl rfl rfl ?_ hc (each_rel he)⟩
    · have q := hk b u q
      have hlt := Heap.lt_size q
      show (sortedHeap _ _ _ _).get? b = some u
      rw [sortedHeap_old (Nat.ne_of_lt hlt) (by rw [size_push']; exact Nat.lt_succ_of_lt hlt)]
      exact Heap.get?_push_of_some _ q
    · refine ⟨?_, h', hk, Nat.le_refl _⟩
      cases q : s.heap.get? h'.objs.size with
      | none => rfl
      | some u => exact absurd (Heap.lt_size (hk _ _ q)) (Nat.lt_irrefl _)
end
section
variable {X : Cx}
def keysB : List DEnt → List (D × D) → List VD
  | x :: xs, q :: kvs => (.ref x.2.1, q.1) :: keysB xs kvs
  | _, _ => []
theorem keysB_snd {K : PySem.W.Frag} {H : Hp} : ∀ {xs : List DEnt} {kvs : List (D × D)}, DqKv K H xs kvs → (keysB xs kvs).map encV = kvs.map (·.1)
  | _, _, .nil => rfl
  | _, _, .cons _ _ _ t => by show _ :: _ = _ :: _; rw [← keysB_snd t]
theorem keysB_dq {K : PySem.W.Frag} {H : Hp} : ∀ {xs : List DEnt} {kvs : List (D × D)}, DqKv K H xs kvs → ∀ p ∈ keysB xs kvs, Dq K H p.1 p.2
  | _, _, .nil => fun _ m => nomatch m
  | _, _, .cons _ a _ t => fun p m => by
    rcases List.mem_cons.mp m with rfl | m
    · exact a
    · exact keysB_dq t p m
def rSortN (K : PySem.W.Frag) : List V → Hp → VK → Prop := fun vs H Q => ∃ (a : Addr) (o : Obj) (xs : List DEnt) (kvs : List (D × D)), vs = [V.ref a] ∧ H a = some (dnO a o) ∧ DObj o xs ∧ DqKv K H xs kvs ∧ KeysOk (kvs.map (·.1)) ∧
  ∀ p, H p = none → Q (.ref p) (upd H p (.lst (((keysB xs kvs).mergeSort (PySem.W.dataLe false encV)).map (·.1))))
theorem keysB_vals {xs : List DEnt} {ys : List (VKey × Addr × Value)} {K : PySem.W.Frag} {H : Hp} (hp : Paired EntR xs ys) : ∀ {kvs : List (D × D)}, DqKv K H xs kvs → PySem.W.EachIs (fun u (p : VD) => RelV p.1 u) (ys.map fun y => Value.ref y.2.1) (keysB xs kvs) := by
  induction hp with
  | nil => intro kvs h; cases h; exact .nil
  | @cons x y xs ys h t ih =>
    intro kvs hk
    cases hk with
    | cons _ _ _ tk => exact .cons (by show RelV (V.ref _) (Value.ref y.2.1); rw [← h.2.1]; rfl) (ih tk)
theorem cr_sortN (hc : X.calm = true) (hu : X.A.units + 64 < cLine) : CallR X (.builtin "sorted") (rSortN X.K) := by
  intro pins s σ H vs us Q I r h
  obtain ⟨a, o, xs, kvs, rfl, ha, hd, hkv, ok, q⟩ := h
  rw [Vals.ref1 r]
  obtain ⟨⟨h1, h2⟩, _⟩ := (show ObjOk X.prog X.w H s.heap a (dnO a o) from I.hok a _ ha)
  obtain ⟨hl, hx, es, ep, ys, hod, hp, he, hn⟩ := id hd
  have ek : es.toList.map (·.key) = ys.map fun y => Value.ref y.2.1 := by rw [he, List.map_map]; rfl
  have e := keysB_vals hp hkv
  rw [← ek] at e
  have hsz : es.size ≤ sizeLine := by
    have := congrArg List.length he
    rw [List.length_map, Array.length_toList, ← Paired.length hp] at this
    omega
  have er : ∀ {us : List Value} {bs : List VD}, PySem.W.EachIs (fun u (p : VD) => RelV p.1 u) us bs → (∀ p ∈ bs, Dq X.K H p.1 p.2 ∧ ∃ k, keyOf p.2 = some k) → PySem.W.EachIs (fun u (p : VD) => Reads s.heap u p.2 []) us bs := by
    intro us bs e
    induction e with
    | nil => intro _; exact .nil
    | @cons u p us bs h1 _ ih =>
      intro hm
      obtain ⟨m1, k, m2⟩ := hm p List.mem_cons_self
      obtain ⟨as, r⟩ := L2.Dp.reads I p.2 p.1 u (Dq.dp m1 (key_plain m2)) h1
      have := key_reads m2 r
      subst this
      exact .cons r (ih fun q m => hm q (List.mem_cons_of_mem _ m))
  have ok' : KeysOk ((keysB xs kvs).map encV) := by rw [keysB_snd hkv]; exact ok
  refine sorted_dk h2 h1 hx hod (I.ok.hd hc) (by omega) hsz e (er e fun p m => ⟨keysB_dq hkv p m, (ok'.1 p.2 (List.mem_map.mpr ⟨p, m, rfl⟩)).2⟩) ok' fun s' p c out k g os dr hp' hg rv => ?_
  have hn : H p = none := by
    obtain ⟨_, h1', k1', hz'⟩ := hp'
    exact (I.hok.kept k1').fresh hz'
  have hlen : (((keysB xs kvs).mergeSort (PySem.W.dataLe false encV)).map (·.1)).length ≤ sizeLine := by
    rw [List.length_map, (List.mergeSort_perm _ _).length_eq, ← e.length, List.length_map, Array.length_toList]
    exact hsz
  have J := I.laidN (h' := s'.heap) (a := p) (o := .lst (((keysB xs kvs).mergeSort (PySem.W.dataLe false encV)).map (·.1))) (t' := s'.toks) k hp'.1 hn ⟨hlen, out, c, rv, hg⟩
  have e2 : s' = { s with heap := s'.heap, toks := s'.toks } := by
    cases s'
    cases s
    cases os
    cases g
    cases dr
    rfl
  rw [e2]
  exact ⟨.ref p, _, J, rfl, q p hn⟩
end
open Classical in
noncomputable def gSortN : List D → Option (List D)
  | [.dict kvs] => if KeysOk (kvs.map (·.1)) then some ((kvs.map (·.1)).mergeSort leD) else none
  | _ => none
theorem dqAll_of {K : PySem.W.Frag} {H : Hp} : ∀ {bs : List VD}, (∀ p ∈ bs, Dq K H p.1 p.2) → DqAll K H (bs.map (·.1)) (bs.map (·.2))
  | [], _ => .nil
  | p :: bs, h => .cons (h p List.mem_cons_self) (dqAll_of fun q m => h q (List.mem_cons_of_mem _ m))
theorem calll_sortN {K : PySem.W.Frag} : CallL K (rSortN K) gSortN := by
  intro O H xs ds ys Q ho h hg q
  unfold gSortN at hg
  split at hg
  · rename_i kvs
    by_cases hA : KeysOk (kvs.map (·.1))
    · rw [if_pos hA] at hg
      cases hg
      obtain ⟨v, rfl, hv⟩ := rb1 h
      obtain ⟨a, o, xs, rfl, h1, h2, h3⟩ := hv.dict
      refine ⟨a, o, xs, kvs, rfl, h1, h2, dpKv_mono hid_le h3, hA, fun p hp => q p _ _ hp upd_same (same_upd hp) ?_⟩
      rw [← keysB_snd h3, ← sort_snd]
      exact dqAll_of fun p m => keysB_dq h3 p ((List.mergeSort_perm _ _).mem_iff.mp m)
    · rw [if_neg hA] at hg; cases hg
  · cases hg
end DD

namespace DD
open PySem PySem.Spec PyProof.Rows L2

/-! ### sorted(xs), xs pairs, the firsts alike and apart -/
def fstD : D → D
  | .tuple (k :: _) => k
  | _ => .none
structure FstOk (ds : List D) : Prop where
  shape : ∀ d ∈ ds, ∃ k v, d = .tuple [k, v]
  plain : ∀ d ∈ ds, d.plain = true ∧ d.depth ≤ 20
  hal : PySem.W.AllAlike (ds.map fstD)
  some : ∀ d ∈ ds, fstD d ≠ .none
  apart : ∀ d ∈ ds, ∀ d' ∈ ds, PyData.eqv (fstD d) (fstD d') = true → d = d'
abbrev leF : D → D → Bool := PySem.W.dataLe false fstD
open Classical in
noncomputable def fstKind (h : Heap) (ds : List D) : PyProof.Rows.KeyKind where
  toKeyOrd := listOrd itemOrd
  keyOf v := if q : ∃ d, d ∈ ds ∧ ∃ as, Reads h v d as then some (PySem.W.keyToks (fstD q.choose)) else none
  dflt := ([] : List (Int ⊕ List Nat))
theorem fst_reads {h : Heap} {v : Value} {k x : D} {as : List Addr} (r : Reads h v (.tuple [k, x]) as) : ∃ (a : Addr) (o : Obj) (n : Nat) (u w : Value) (bs cs : List Addr), v = .ref a ∧ h.get? a = some o ∧ o.cls = .type "tuple" ∧ o.data = .seq #[u, w] n ∧ Reads h u k bs ∧ Reads h w x cs := by
  cases r with
  | @tuple a o vs n _ _ h1 h2 h3 h4 =>
    cases q : vs.toList with
    | nil => rw [q] at h4; cases h4
    | cons u r1 =>
      rw [q] at h4
      cases h4 with
      | cons g1 g2 =>
        cases r1 with
        | nil => cases g2
        | cons w r2 =>
          cases g2 with
          | cons g3 g4 =>
            cases g4
            have e : vs = #[u, w] := by rw [← Array.toArray_toList (xs := vs), q]
            subst e
            exact ⟨a, o, n, u, w, _, _, rfl, h1, h2, h3, g1, g3⟩
theorem fst_uniq {h : Heap} {ds : List D} (ok : FstOk ds) {v : Value} {d d' : D} {as bs : List Addr} (hd : d ∈ ds) (hd' : d' ∈ ds) (r : Reads h v d as) (r' : Reads h v d' bs) : fstD d = fstD d' := by
  obtain ⟨k, x, rfl⟩ := ok.shape d hd
  obtain ⟨k', x', rfl⟩ := ok.shape d' hd'
  obtain ⟨a, o, n, u, w, _, _, e1, e2, _, e3, e4, _⟩ := fst_reads r
  obtain ⟨a', o', n', u', w', _, _, f1, f2, _, f3, f4, _⟩ := fst_reads r'
  rw [e1] at f1
  cases f1
  rw [e2] at f2
  cases f2
  rw [e3] at f3
  cases f3
  exact PySem.W.alike_unique _ _ _ _ _ (ok.hal _ (List.mem_map.mpr ⟨_, hd, rfl⟩) _ (List.mem_map.mpr ⟨_, hd', rfl⟩)) e4 f4
theorem fst_some {h : Heap} {ds : List D} (ok : FstOk ds) {v : Value} {d : D} {as : List Addr} (hd : d ∈ ds) (r : Reads h v d as) : (fstKind h ds).keyOf v = some (PySem.W.keyToks (fstD d)) := by
  have q : ∃ d, d ∈ ds ∧ ∃ as, Reads h v d as := ⟨d, hd, as, r⟩
  have e : (fstKind h ds).keyOf v = some (PySem.W.keyToks (fstD q.choose)) := by
    show (open Classical in if q : ∃ d, d ∈ ds ∧ ∃ as, Reads h v d as then some (PySem.W.keyToks (fstD q.choose)) else none) = _
    rw [dif_pos q]
  obtain ⟨h1, as', h2⟩ := q.choose_spec
  rw [e, fst_uniq ok h1 hd h2 r]
theorem fst_inv {h : Heap} {ds : List D} {v : Value} {k : List (Int ⊕ List Nat)} (e : (fstKind h ds).keyOf v = some k) : ∃ d as, d ∈ ds ∧ Reads h v d as ∧ k = PySem.W.keyToks (fstD d) := by
  by_cases q : ∃ d, d ∈ ds ∧ ∃ as, Reads h v d as
  · have e' : (fstKind h ds).keyOf v = some (PySem.W.keyToks (fstD q.choose)) := by
      show (open Classical in if q : ∃ d, d ∈ ds ∧ ∃ as, Reads h v d as then some (PySem.W.keyToks (fstD q.choose)) else none) = _
      rw [dif_pos q]
    obtain ⟨h1, as', h2⟩ := q.choose_spec
    rw [e'] at e
    exact ⟨_, as', h1, h2, (Option.some.inj e).symm⟩
  · have e' : (fstKind h ds).keyOf v = none := by
      show (open Classical in if q : ∃ d, d ∈ ds ∧ ∃ as, Reads h v d as then some (PySem.W.keyToks (fstD q.choose)) else none) = _
      rw [dif_neg q]
      rfl
    rw [e'] at e
    cases e
mutual
theorem alike_self : ∀ d : D, d.plain = true → PySem.W.alike d d = true
  | .none, _ => rfl
  | .bool _, _ => rfl
  | .int _, _ => rfl
  | .str _, _ => rfl
  | .list xs, h => by rw [PySem.W.alike]; exact alike_selfAll xs (by simpa [PyData.plain] using h)
  | .tuple xs, h => by rw [PySem.W.alike]; exact alike_selfAll xs (by simpa [PyData.plain] using h)
  | .dict _, h => by simp [PyData.plain] at h
theorem alike_selfAll : ∀ xs : List D, PyData.plainAll xs = true → PySem.W.alikeAll xs xs = true
  | [], _ => by simp [PySem.W.alikeAll]
  | x :: xs, h => by
    rw [PyData.plainAll, Bool.and_eq_true] at h
    rw [PySem.W.alikeAll, alike_self x h.1, alike_selfAll xs h.2]; rfl
end
theorem pair_parts {k v : D} (h : (PyData.tuple [k, v]).plain = true) : k.plain = true ∧ v.plain = true := by
  simpa [PyData.plain, PyData.plainAll] using h
theorem pair_depth {k v : D} {n : Nat} (h : (PyData.tuple [k, v]).depth ≤ n) : k.depth ≤ n ∧ v.depth ≤ n := by
  rw [PyData.depth, PyData.depthAll, PyData.depthAll, PyData.depthAll] at h
  omega
section
variable {P : Program} {w : World} {A : Around} {E : Value → Shared → Prop} {s : Shared}
theorem fst_sorts {vs : List Value} {ds : List D} (e : PySem.W.EachIs (fun v d => ∃ as, Reads s.heap v d as) vs ds) (ok : FstOk ds) (hu : A.units + 40 < cLine) : PySem.W.SortsAt P w A s (fstKind s.heap ds) vs := by
  refine ⟨fun v hv => ?_, ?_⟩
  · obtain ⟨d, hd, as, r⟩ := e.left v hv
    exact ⟨_, fst_some ok hd r⟩
  · cases ds with
    | nil =>
      cases e
      exact ⟨general', fun E x y a b Q ha _ _ => (by
        obtain ⟨d, _, hd, _⟩ := fst_inv ha
        exact absurd hd (by simp)), fun h2 => absurd h2 (by simp)⟩
    | cons d₀ ds₀ =>
      obtain ⟨k₀, x₀, e₀⟩ := ok.shape d₀ List.mem_cons_self
      have hfirst : ∀ x r, PyData.tuple (x :: r) ∈ d₀ :: ds₀ → PySem.W.alike x k₀ = true := by
        intro x r hm
        have q := ok.hal (fstD (.tuple (x :: r))) (List.mem_map.mpr ⟨_, hm, rfl⟩) (fstD d₀) (List.mem_map.mpr ⟨_, List.mem_cons_self, rfl⟩)
        rw [e₀] at q
        exact q
      refine ⟨tuples' (PySem.W.dataType k₀ != Value.type "tuple"), ?_, fun h2 E Q hq => ?_⟩
      · intro E x y a b Q ha hb hq
        obtain ⟨d, as, hd, ra, rfl⟩ := fst_inv ha
        obtain ⟨d', as', hd', rb, rfl⟩ := fst_inv hb
        have pd := ok.plain d hd
        have pd' := ok.plain d' hd'
        have hap := ok.apart d hd d' hd'
        have hsm := ok.some d hd
        have hal := ok.hal _ (List.mem_map.mpr ⟨_, hd, rfl⟩) _ (List.mem_map.mpr ⟨_, hd', rfl⟩)
        obtain ⟨k, v, rfl⟩ := ok.shape d hd
        obtain ⟨k', v', rfl⟩ := ok.shape d' hd'
        obtain ⟨a1, o1, n1, u1, w1, _, _, rfl, g1, g2, g3, g4, g5⟩ := fst_reads ra
        obtain ⟨a2, o2, n2, u2, w2, _, _, rfl, f1, f2, f3, f4, f5⟩ := fst_reads rb
        have hk := pair_depth pd.2
        have hk' := pair_depth pd'.2
        have hq' : Q (PySem.W.dataLt k k') s := hq
        refine PySem.W.kat_lt g1 g3 f1 f3 ?_
        show PySem.W.KatLex P w A _ (decide (2 < 2)) Q [(u1, u2), (w1, w2)] 0 s
        refine PySem.W.kat_cons (PySem.W.eqAt_alike k k' A s u1 u2 _ _ g4 f4 hal (by omega) P w _ _ ?_)
        refine PySem.W.kat_go (fun e1 => ?_) (fun e1 => ?_)
        · have e2 := hap e1
          cases e2
          refine PySem.W.kat_yes (PySem.W.kat_cons (PySem.W.eqAt_alike v v A s w1 w2 _ _ g5 f5 (alike_self v (pair_parts pd.1).2) (by omega) P w _ _ ?_))
          rw [PySem.SeqAt.eqv_refl_plain v (pair_parts pd.1).2]
          refine PySem.W.kat_yes (PySem.W.kat_nil ?_)
          have e3 : PySem.W.dataLt k k = false := lex_irrefl _
          rw [e3] at hq'
          exact hq'
        · refine PySem.W.kat_no (PySem.W.oneLt_alike (fun hb t ex => ?_) g4 f4 hal hsm (by omega) hq')
          have q := PySem.W.dataType_alike (hfirst k [v] hd)
          rw [Bool.and_eq_true, ← q] at hb
          exact PySem.W.dataType_tuple hb.1 t ex
      · obtain ⟨fs, t1, t2, t3⟩ := PySem.W.each_katTups e fun d hd => (let ⟨k, v, e⟩ := ok.shape d hd; ⟨k, [v], e⟩)
        refine PySem.W.kat_kind (T := PySem.W.dataType k₀) t1 (by omega) (fun f hf => ?_) (beq_self_eq_true _) hq
        obtain ⟨x, r, as, m1, m2⟩ := t3 f hf
        rw [← PySem.W.dataType_alike (hfirst x r m1)]
        exact PySem.W.looks_reads m2
theorem fst_keys {h : Heap} {bs : List VD} {vs : List Value} (ok : FstOk (bs.map encV)) (er : PySem.W.EachIs (fun v (p : VD) => ∃ as, Reads h v p.2 as) vs bs) : PySem.W.EachIs (fun v (p : VD) => (fstKind h (bs.map encV)).keyOf v = some (PySem.W.keyToks (fstD p.2))) vs bs :=
  (PySem.W.each_mem er).mono fun v p ⟨⟨as, r⟩, m⟩ => fst_some ok (List.mem_map.mpr ⟨p, m, rfl⟩) r
theorem sorted_fst {l : Addr} {vs : List Value} {bs : List VD} {Q : Value → Shared → Prop} (hl : s.heap.IsList l vs.toArray) (hz : vs.length ≤ sizeLine) (e : PySem.W.EachIs (fun u (p : VD) => RelV p.1 u) vs bs) (er : PySem.W.EachIs (fun v (p : VD) => ∃ as, Reads s.heap v p.2 as) vs bs)
    (ok : FstOk (bs.map encV)) (hu : A.units + 64 < cLine) (h : ∀ out, out.length = bs.length → Vals ((bs.mergeSort (PySem.W.dataLe false fun p : VD => fstD p.2)).map (·.1)) out → Q (.ref (s.heap.objs.size + 1)) { s with heap := sortedAll s.heap vs (List.toArray out) }) :
    wpAny (model P w) A (call (.builtin "sorted") [.ref l]) Q E s := by
  have er' : PySem.W.EachIs (fun v (p : VD) => ∃ as, Reads (PySem.W.sortingHeap (PySem.W.copyHeap s.heap vs) (s.heap.objs.size + 1) vs) v p.2 as) vs bs := er.mono fun _ _ ⟨as, r⟩ => ⟨as, PyProof.Rows.Reads.keeps (fun _ _ => PySem.W.sorting_copy_old) r⟩
  refine PySem.W.sorted_vals hl (fst_sorts (s := { s with heap := PySem.W.sortingHeap (PySem.W.copyHeap s.heap vs) (s.heap.objs.size + 1) vs }) (PySem.W.each_map (R := fun v d => ∃ as, Reads (PySem.W.sortingHeap (PySem.W.copyHeap s.heap vs) (s.heap.objs.size + 1) vs) v d as) encV er') ok (by show A.units + 1 + 1 + 40 < cLine; omega)) hz ?_
  have he := PySem.W.sortVals_each (κ := fstKind (PySem.W.sortingHeap (PySem.W.copyHeap s.heap vs) (s.heap.objs.size + 1) vs) (bs.map encV)) (rev := false) (fun p : VD => PySem.W.keyToks (fstD p.2)) e (fst_keys ok er')
  refine h _ ?_ (each_rel he)
  rw [PySem.W.sortVals_length false rfl]
  exact e.length
end
section
variable {X : Cx}
def rSortF (K : PySem.W.Frag) : List V → Hp → VK → Prop := fun vs H Q => ∃ (a : Addr) (bs : List VD), vs = [V.ref a] ∧ SqL K H a (bs.map (·.1)) ∧ (∀ p ∈ bs, Dq K H p.1 p.2) ∧ FstOk (bs.map encV) ∧
  ∀ p, H p = none → Q (.ref p) (upd H p (.lst ((bs.mergeSort (PySem.W.dataLe false fun p : VD => fstD p.2)).map (·.1))))
theorem cr_sortF (hu : X.A.units + 64 < cLine) : CallR X (.builtin "sorted") (rSortF X.K) := by
  intro pins s σ H vs us Q I r h
  obtain ⟨a, bs, rfl, hs, hd, ok, q⟩ := h
  obtain ⟨its, rv, hl, hz⟩ := I.list hs
  rw [Vals.ref1 r]
  have e : ∀ {bs : List VD} {us : List Value}, Vals (bs.map (·.1)) us → PySem.W.EachIs (fun u (p : VD) => RelV p.1 u) us bs := by
    intro bs
    induction bs with
    | nil => intro us r; cases r; exact .nil
    | cons p bs ih => intro us r; cases r with | cons r1 r2 => exact .cons r1 (ih r2)
  have e0 := e rv
  have er : PySem.W.EachIs (fun v (p : VD) => ∃ as, Reads s.heap v p.2 as) its bs := (PySem.W.each_mem e0).mono fun u p ⟨h1, m⟩ =>
    L2.Dp.reads I p.2 p.1 u (Dq.dp (hd p m) (ok.plain p.2 (List.mem_map.mpr ⟨p, m, rfl⟩)).1) h1
  refine sorted_fst hl.isList (by rw [e0.length, ← List.length_map (f := fun p : VD => p.1) (as := bs)]; exact hz) e0 er ok hu fun out hlen rv' => ?_
  obtain ⟨ep, he'⟩ := PyProof.Rows.sortedAll_at s.heap its out.toArray
  have hl2 : ((bs.mergeSort (PySem.W.dataLe false fun p : VD => fstD p.2)).map (·.1)).length ≤ sizeLine := by
    rw [List.length_map, (List.mergeSort_perm _ _).length_eq, ← List.length_map (f := fun p : VD => p.1) (as := bs)]
    exact hz
  exact ⟨.ref _, upd H (s.heap.objs.size + 1) (.lst ((bs.mergeSort (PySem.W.dataLe false fun p : VD => fstD p.2)).map (·.1))), I.laid (t' := s.toks) (fun _ _ => PyProof.Rows.sortedAll_old) (Nat.le_succ _) ⟨hl2, out, ep, rv', he'⟩, rfl, q _ (I.hok.fresh (Nat.le_succ _))⟩
end
open Classical in
noncomputable def gSortF : List D → Option (List D)
  | [.list ds] => if FstOk ds then some (ds.mergeSort leF) else none
  | _ => none
theorem zip_vd : ∀ {vs : List V} {ds : List D} {K : PySem.W.Frag} {H : Hp}, DqAll K H vs ds → ∃ bs : List VD, bs.map (·.1) = vs ∧ bs.map encV = ds ∧ ∀ p ∈ bs, Dq K H p.1 p.2
  | _, _, _, _, .nil => ⟨[], rfl, rfl, fun _ m => nomatch m⟩
  | v :: _, d :: _, _, _, .cons a t => by
    obtain ⟨bs, e1, e2, e3⟩ := zip_vd t
    refine ⟨(v, d) :: bs, by rw [List.map_cons, e1], by rw [List.map_cons, e2], fun p m => ?_⟩
    rcases List.mem_cons.mp m with rfl | m
    · exact a
    · exact e3 p m
theorem calll_sortF {K : PySem.W.Frag} : CallL K (rSortF K) gSortF := by
  intro O H xs ds ys Q ho h hg q
  unfold gSortF at hg
  split at hg
  · rename_i ds0
    by_cases hA : FstOk ds0
    · rw [if_pos hA] at hg
      cases hg
      obtain ⟨v, rfl, hv⟩ := rb1 h
      obtain ⟨a, vs, rfl, h1, h2⟩ := hv.list
      obtain ⟨bs, rfl, rfl, e3⟩ := zip_vd h2
      refine ⟨a, bs, rfl, .of h1, fun p m => dp_mono hid_le (e3 p m), hA, fun p hp => q p _ _ hp upd_same (same_upd hp) ?_⟩
      have e : (bs.mergeSort (PySem.W.dataLe false fun p : VD => fstD p.2)).map (fun p : VD => p.2) = (bs.map (fun p : VD => p.2)).mergeSort leF := PySem.W.sort_maps (fun p : VD => p.2) fun _ _ _ _ => rfl
      show DqAll K (hid O H) _ ((bs.map (fun p : VD => p.2)).mergeSort leF)
      rw [← e]
      exact dqAll_of fun p m => e3 p ((List.mergeSort_perm _ _).mem_iff.mp m)
    · rw [if_neg hA] at hg; cases hg
  · cases hg
end DD

namespace DD
open PySem PySem.Spec PyProof.Rows L2 GenW

/-! ### yield from a list, for a consumer with several objects of its own -/
section
variable {prog : Program} {w : World} {A : Around} {E : Value → Shared → Prop} {s : Shared}
theorem lnext_item {it l : Addr} {i : Nat} {items : Array Value} {x : Value} {Q : Option Value → Shared → Prop} (hit : s.heap.IsListIter it l i) (hl : s.heap.IsList l items) (hx : items[i]? = some x)
    (hQ : ∀ h', h'.IsListIter it l (i + 1) → Heap.SameBut it s.heap h' → Q (some x) { s with heap := h' }) : wpAny (model prog w) A (callSpecial? (.ref it) "__next__") Q E s := by
  obtain ⟨o, ho, hc, hd⟩ := id hit
  obtain ⟨ol, hol, _, nl, hdl⟩ := hl
  refine wpAny_callSpecial?_slot (name := Str.ofString "__next__") hit.typeIs slot_listiter_next (wpAny_call_entry slot_listiter_next hit.typeIs entry_listiter_next ?_ (args_listiter_next _))
  show wpAny _ _ (field (.ref it) 0 >>= _) _ _ s
  refine wpAny_bind (wpAny_field ho hd (x := .ref l) rfl ?_)
  show wpAny _ _ (if (Value.ref l == Value.none) = true then _ else _) _ _ s
  rw [if_neg (show ¬ ((Value.ref l == Value.none) = true) from Bool.false_ne_true)]
  show wpAny _ _ (field (.ref it) 1 >>= _) _ _ s
  refine wpAny_bind (wpAny_field ho hd (x := .int i 0) rfl ?_)
  show wpAny _ _ (seqItems? (.ref l) >>= _) _ _ s
  refine wpAny_bind (wpAny_seqItems hol hdl ?_)
  simp only [Int.toNat_natCast, hx]
  refine wpAny_bind (wpAny_setField ho hd (by simp) (wpAny_pure ⟨x, rfl, hQ _ ?_ (Heap.SameBut.update ..)⟩))
  exact ⟨_, Heap.get?_update_self _ ho (Obj.isFreed_of_fields (Obj.data_mapFields hd _)), (Obj.cls_mapFields ..).trans hc, by
    rw [Obj.data_mapFields hd]; simp [rawInt]⟩
theorem lnext_end {it l : Addr} {i : Nat} {items : Array Value} {Q : Option Value → Shared → Prop} (hh : A.handled = none) (hit : s.heap.IsListIter it l i) (hl : s.heap.IsList l items) (hx : items[i]? = none)
    (hE : ∀ e h', StopX e h' → Heap.ExtBut it s.heap h' → E e { s with heap := h' }) : wpAny (model prog w) A (callSpecial? (.ref it) "__next__") Q E s := by
  obtain ⟨o, ho, hc, hd⟩ := id hit
  obtain ⟨ol, hol, _, nl, hdl⟩ := hl
  refine wpAny_callSpecial?_slot (name := Str.ofString "__next__") hit.typeIs slot_listiter_next (wpAny_call_entry slot_listiter_next hit.typeIs entry_listiter_next ?_ (args_listiter_next _))
  show wpAny _ _ (field (.ref it) 0 >>= _) _ _ s
  refine wpAny_bind (wpAny_field ho hd (x := .ref l) rfl ?_)
  show wpAny _ _ (if (Value.ref l == Value.none) = true then _ else _) _ _ s
  rw [if_neg (show ¬ ((Value.ref l == Value.none) = true) from Bool.false_ne_true)]
  show wpAny _ _ (field (.ref it) 1 >>= _) _ _ s
  refine wpAny_bind (wpAny_field ho hd (x := .int i 0) rfl ?_)
  show wpAny _ _ (seqItems? (.ref l) >>= _) _ _ s
  refine wpAny_bind (wpAny_seqItems hol hdl ?_)
  simp only [Int.toNat_natCast, hx]
  refine wpAny_bind (wpAny_rule (wpAny_bind (wpAny_setField ho hd (by simp) ?_)))
  show wpAny _ _ (newExc (.type "StopIteration") [] >>= _) _ _ _
  refine wpAny_bind ?_
  simp only [newExc, newTuple]
  refine wpAny_bind (wpAny_newObj_type ?_ (by size_fits))
  refine wpAny_bind (m := firstArgMember _ _) (wpAny_of_eq (a := Value.none) (by first | rfl | (simp only [firstArgMember]; rfl)) ?_)
  refine wpAny_newObj_type ?_ (by size_fits)
  simp only [raiseNew]
  refine wpAny_bind (wpAny_handled ?_)
  first | rw [show A.in1.handled = none from hh] | rw [hh]
  refine wpAny_bind (wpAny_pure (wpAny_throw ?_))
  refine hE _ _ ⟨_, _, _, rfl, Heap.get?_push_size _ rfl, rfl, rfl, ?_⟩ (((Heap.SameBut.update ..).extBut.push _).push _)
  first
    | rfl
    | (rw [Array.getElem?_append_left (by decide)]; rfl)
    | kernel_rfl
end
theorem close_lst : typeLookup (.type "list_iterator") "close" = pure none := by rw [typeLookup_type, builtinLookup_eq_fast]; kernel_rfl
section
variable {X : Cx} {e : Expr} {yp pos : Pos} {te : TE}
def tYfLst (te : TE) : TYf := fun σ H Q => te σ H fun x H1 => ∃ a xs, x = .ref a ∧ H1 a = some (.lst xs) ∧ Q xs H1
theorem yf_lst (he : PE X e te) : YfE X e (tYfLst te) := by
  refine ⟨fun pins s σ H Q I h => ?_⟩
  refine thn (he.run pins s σ H _ I h) fun v s1 ⟨x, H1, I1, r1, a, xs, ex, ha, hq⟩ => ?_
  subst ex
  obtain rfl : v = Value.ref a := r1
  obtain ⟨hlen, its, nn, rits, hl⟩ := I1.hok a _ ha
  have hlist : s1.heap.IsList a its.toArray := ⟨_, hl, rfl, nn, rfl⟩
  have hlt : a < s1.heap.objs.size := Heap.lt_size hl
  refine ⟨"list", hlist.typeIs, by decide, wpAny_pyIter_list hlist ?_⟩
  have ksz : ∀ b o, s1.heap.get? b = some o → b ≠ s1.heap.objs.size := fun b o e => Nat.ne_of_lt (Heap.lt_size e)
  have kp : ∀ b o, s1.heap.get? b = some o → (s1.heap.push { cls := .type "list_iterator", data := .fields #[.ref a, .int 0 0] }).get? b = some o := fun b o e => Heap.get?_push_of_some _ e
  refine ⟨s1.heap.objs.size, H1, xs, fun j h => h.IsListIter s1.heap.objs.size a j ∧ h.IsList a its.toArray, rfl, I1.kept (t' := s1.toks) kp, .inr I1.sz, Nat.ne_of_gt I1.lt, fun y c hy => ?_, I1.hok.fresh (Nat.le_refl _), fun p hp => ?_,
    ⟨⟨_, Heap.get?_push_size _ rfl, rfl, rfl⟩, hlist.push _⟩, ⟨⟨"list_iterator", fun j h q => ?_, close_lst, by decide⟩, fun j h h' q hk => ?_, fun A' j x s2 Q' E' hA hx q hQ => ?_, fun A' s2 Q' E' hA q hE => ?_⟩, hq⟩
  · obtain ⟨v, o, ho, _⟩ := I1.cell y c hy
    exact ksz c o ho
  · exact ksz p.1 _ (I1.pin p hp).1
  · obtain ⟨⟨o, ho, hc, _⟩, _⟩ := q
    exact ⟨o, ho, hc⟩
  · obtain ⟨⟨o, ho, r⟩, o2, ho2, r2⟩ := q
    exact ⟨⟨o, hk _ o (.inl rfl) ho, r⟩, o2, hk _ o2 (.inr (by rw [ha]; exact fun z => by cases z)) ho2, r2⟩
  · obtain ⟨q1, q2⟩ := q
    obtain ⟨u, hu, ru⟩ := rits.get hx
    have hne : a ≠ s1.heap.objs.size := Nat.ne_of_lt hlt
    exact lnext_item q1 q2 (x := u) (by simpa using hu) fun h' q1' hs => hQ u h' s2.toks ru ⟨q1', q2.extBut hs.extBut hne⟩ fun b o hb eb => hs.extBut b o hb eb
  · obtain ⟨q1, q2⟩ := q
    have hnone : its.toArray[xs.length]? = none := by
      have e := rits.length
      have e2 : its[xs.length]? = none := List.getElem?_eq_none_iff.mpr (by omega)
      simpa using e2
    exact lnext_end hA q1 q2 hnone fun e h' hS hk => hE e h' s2.toks hS fun b o hb eb => hk b o hb eb

/-- the turns -/
theorem seg_from {B : Cns} {ip : List (Addr × Obj)} {A : Around} {R : GenEnd} {fs : List Frame} {it : Addr} {xs ys : List V} {St : Nat → Heap → Prop} {σ : L2.St} {H : Hp} (hpz : ∀ p ∈ X.pn ++ ip, p.1 ∉ B.Z) (hpi : ∀ p ∈ X.pn ++ ip, p.1 ≠ it) (hA : Young X B.Z)
    (hex : it ∈ X.ex ∨ X.s_0.heap.objs.size ≤ it) (hL : it ≠ X.env.locals) (hcell : ∀ x c, X.env.cells.lookup x = some c → c ≠ it) (hSi : it ∉ B.Z) (hH : H it = none) (q : QIt X H it xs St)
    (ho : (A.over (.builtin "proto.yield_from" ⟨[.ref it, .bool false, .none], []⟩) fs).handled = none) (hsp : splitAtGen fs = none) (hgd : fs.any Frame.guarded = false) (hle : ys.length + xs.length ≤ sizeLine)
    (hend : ∀ (n : Nat) (s₀ s : Shared), n + (ys ++ xs).length = sizeLine → GJ X B ip (ys ++ xs) σ H s → Seg (model X.prog X.w) A R (GYz X B) n s₀ (.builtin "proto.yield_from" ⟨[.ref it, .bool false, .none], []⟩) (.pure (.done (.ret .none))) fs s) :
    ∀ (r j n : Nat) (s₀ s : Shared), j + r = xs.length → n + (ys.length + j) = sizeLine → GJ X B ip (ys ++ xs.take j) σ H s → St j s.heap →
      Seg (model X.prog X.w) A R (GYz X B) n s₀ (.builtin "proto.yield_from" ⟨[.ref it, .bool false, .none], []⟩) ((model X.prog X.w).den (.builtin "proto.yield_from" ⟨[.ref it, .bool false, .none], []⟩)) fs s := by
  obtain ⟨T, hT, hcl, hng⟩ := q.ty
  have turned : ∀ {zs : List V} {s : Shared} {h' : Heap} {tk : Nat}, GJ X B ip zs σ H s → (∀ b o, b ≠ it → s.heap.get? b = some o → h'.get? b = some o) → GJ X B ip zs σ H { s with heap := h', toks := tk } := fun {zs s h' tk} ⟨h0, w, I⟩ hk => by
    refine ⟨h0, w, I.turned (it := it) hk hH hL hex hcell fun p hp => ?_⟩
    rcases List.mem_append.mp hp with hp | hp
    · exact hpi p (List.mem_append_left _ hp)
    · rcases List.mem_append.mp hp with hp | hp
      · exact hpi p (List.mem_append_right _ hp)
      · exact fun z => hSi (z ▸ (of_pinsAt hp).1)
  intro r
  induction r with
  | zero =>
    intro j n s₀ s hj hn hI hst
    have hj' : j = xs.length := by omega
    subst hj'
    rw [List.take_length] at hI
    rw [den_yf]
    unfold Builtin.«proto.yield_from»
    try dsimp only
    refine seg_bind (wpAny_pure ?_)
    try dsimp only
    refine seg_bind (wpAny_attempt (wpAny_holding ?_))
    rw [if_neg Bool.false_ne_true, if_pos (show (Value.none == Value.none) = true from rfl)]
    refine wpAny_bind (wpAny_rule (wpAny_bind ?_))
    refine q.done _ s _ _ ho hst fun e h' tk hS hk => ?_
    obtain ⟨a, o, vs, rfl, hoa, hcls, hdat, h5⟩ := hS
    try dsimp only
    refine seg_bind (wpAny_endsTurn hoa hcls ?_)
    try dsimp only
    rw [if_pos rfl]
    first
      | refine seg_bind (wpAny_rule ?_)
      | (rw [if_neg Bool.false_ne_true]; refine seg_bind (wpAny_rule ?_))
      | (rw [if_neg Bool.false_ne_true]; refine seg_bind (wpAny_pure ?_); refine seg_bind (wpAny_rule ?_))
    refine seg_bind (wpAny_field hoa hdat h5 ?_)
    exact hend n s₀ _ (by rw [List.length_append]; exact hn) (turned hI hk)
  | succ r ih =>
    intro j n s₀ s hj hn hI hst
    have hjl : j < xs.length := by omega
    obtain ⟨x, hx⟩ : ∃ x, xs[j]? = some x := ⟨xs[j], List.getElem?_eq_getElem hjl⟩
    obtain ⟨n, rfl⟩ : ∃ m, n = m + 1 := ⟨n - 1, by omega⟩
    have htl : (xs.take j).length = j := by rw [List.length_take]; omega
    rw [den_yf]
    unfold Builtin.«proto.yield_from»
    try dsimp only
    refine seg_bind (wpAny_pure ?_)
    try dsimp only
    refine seg_bind (wpAny_attempt (wpAny_holding ?_))
    rw [if_neg Bool.false_ne_true, if_pos (show (Value.none == Value.none) = true from rfl)]
    refine wpAny_bind (wpAny_rule (wpAny_bind ?_))
    refine q.item _ j x s _ _ ho hx hst fun v h' tk rv hst' hk => ?_
    have hI' := turned (tk := tk) hI hk
    obtain ⟨oi, hoi, hoc⟩ := hT (j + 1) h' hst'
    refine wpAny_pure ?_
    try dsimp only
    refine seg_bind (wpAny_typeOf (T := T) ⟨oi, hoi, hoc⟩ ?_)
    try dsimp only
    first
      | (refine seg_bind (wpAny_of_eq hcl ?_); refine seg_bind (wpAny_pure ?_))
      | refine seg_bind (wpAny_bind (wpAny_of_eq hcl (wpAny_pure ?_)))
      | refine seg_bind (wpAny_of_eq hcl ?_)
    try dsimp only
    refine seg_bind (wpAny_sleptOver hoi hoc hng ?_)
    refine seg_yield hsp rfl hgd ?_
    refine ⟨ys ++ xs.take j, x, ip, σ, H, ?_, rv, hI', fun s'' z => ?_⟩
    · rw [List.length_append, htl]; exact hn
    have hI2 := hI'.woken hA hpz z
    have hS0 := hI'.at.2
    have hst2 : St (j + 1) s''.heap := q.frame (j + 1) h' s''.heap hst' fun b o hb e => z.keep b o (fun hm => by
      rcases hb with y | y
      · exact hSi (y ▸ hm)
      · exact y (hS0 b hm).1) e
    obtain ⟨oj, hoj, hojc⟩ := hT (j + 1) s''.heap hst2
    have etk : ys ++ xs.take j ++ [x] = ys ++ xs.take (j + 1) := by
      rw [List.append_assoc, List.take_add_one, hx]; rfl
    rw [etk] at hI2
    show Seg _ _ _ _ n s'' _ (Builtin.Generator.sleptOver (.ref it) false >>= fun _ => _) fs s''
    refine seg_bind (wpAny_sleptOver hoj hojc hng ?_)
    try dsimp only
    refine seg_bind (wpAny_pure ?_)
    exact seg_again (plainId_quiet plain_yf _) (ih (j + 1) n s'' s'' (by omega) (by omega) hI2 hst2)
theorem gz_from {t : TYf} (he : YfE X e t) (hcm : X.calm = true) (hi : interactive X.env = false := by rfl) : GSz X (.Expr (.YieldFrom e yp) pos) (tGFrom t) := by
  refine ⟨fun A B ip R n ys s₀ c fs K J gd lv s σ H D g hn k ⟨h0, w, I⟩ ht => ?_⟩
  have hc : X.A.handled = none := I.ok.hd hcm
  rw [exec_Expr X.env _ pos hi rfl]
  show Seg _ _ _ _ n s₀ c (.at pos fun _ => ((eval e X.env >>= fun v => (standAt yp >>= fun _ => yieldFrom X.env v)) >>= fun x => dropValue (.YieldFrom e yp) pos x).wrap K J gd lv) fs s
  refine seg_at ?_
  refine segw_bind2 ?_
  rw [g.over]
  refine wpAny_mono (he.run _ s σ H _ I ht) (fun v s1 hv => ?_) fun x s' hx => (g.nox _ _ hx).elim
  obtain ⟨T, hT, hne, hit⟩ := hv
  have hne' : ¬ ((Value.type T == Value.type "coroutine") = true) := by rw [hne]; exact Bool.false_ne_true
  refine seg_at ?_
  show Seg _ _ _ _ n s₀ c ((yieldFrom X.env v).wrap (fun b => (dropValue (.YieldFrom e yp) pos b).wrap K J gd lv) J gd lv) fs s1
  unfold yieldFrom
  refine seg_bind_wrap (wpAny_typeOf hT ?_)
  rw [if_neg hne']
  refine seg_bind_wrap (wpAny_holding ?_)
  rw [g.over]
  refine wpAny_mono hit (fun u s2 hu => ?_) fun x s' hx => (g.nox _ _ hx).elim
  obtain ⟨it, H', xs, St, rfl, I2, q1, q2, q3, q4, q5, q6, q7, hle, hq⟩ := hu
  refine seg_call fun p => ?_
  have hSi : it ∉ B.Z := fun z => by
    obtain ⟨o, eo, _⟩ := B.live ys h0 w it z
    exact q5 (it, o) (List.mem_append_right _ (List.mem_append_right _ (mem_pinsAt z eo))) rfl
  refine seg_from (xs := xs) (ys := ys) g.pins (fun p hp => (List.mem_append.mp hp).elim (fun z => q5 p (List.mem_append_left _ z)) fun z => q5 p (List.mem_append_right _ (List.mem_append_left _ z))) g.young q1 q2 q3 hSi q4 q7 ?_ ?_ ?_ hle
    (fun n' s₀' s' hn' hG => ?_) xs.length 0 n s₀ s2 (Nat.zero_add _) hn ⟨h0, by rw [List.take_zero, List.append_nil]; exact w, I2⟩ q6
  · show (A.over c fs).handled = none
    rw [g.over]; exact hc
  · show (splitAtGen fs).map _ = none
    rw [g.split]; rfl
  · show (gd false || fs.any Frame.guarded) = false
    rw [g.gd, g.guard]; rfl
  · exact seg_leaf (.ok (.ret .none)) (k n' (ys ++ xs) s₀' s' .next hn' ⟨σ, H', hG, hq⟩)
end
/-! ### as data: a list is given away and handed out -/
def yFrom (f : FX) : FGn := fun ds e => match f e with
  | some (r, e1) => (match fz r e1 with
    | some (.list xs, e2) => if ds.length + xs.length < 16000000 then some (.nx, ds ++ xs, e2) else none
    | _ => none)
  | none => none
section
variable {X : Cx}
theorem dgs_from {x : Expr} {f : FX} {yp pos : Pos} (hcm : X.calm = true) (h : DE X x f) (hi : interactive X.env = false := by rfl) : DGS X (.Expr (.YieldFrom x yp) pos) (yFrom f) := by
  refine ⟨fun c hc => gsz_imp (gz_from (yf_lst (h.pe c hc)) hcm hi) fun Z ys σ H q => ?_⟩
  obtain ⟨e, ds, R, hy, o, ds', e', he, post⟩ := q
  unfold yFrom at he
  cases q1 : f e with
  | none => rw [q1] at he; cases he
  | some p =>
  obtain ⟨r, e1⟩ := p
  rw [q1] at he; dsimp only at he
  split at he
  · rename_i xs e2 q2
    split at he
    · rename_i hl
      cases he
      refine ⟨e, R, r, e1, q1, fun v H1 S hr => ?_⟩
      obtain ⟨S2, hd⟩ := fz_ok S.rel hr q2
      cases hd with
      | @lst a vs _ g1 g2 =>
        refine ⟨a, vs, rfl, hid_le _ _ g1, by rw [dpAll_len hy, dpAll_len g2, sizeLine_eq]; omega, ?_⟩
        exact post σ H1 (ys ++ vs) S2.rel (dpAll_app (dpAll_mono (S.trans S2).same hy) g2)
    · cases he
  · cases he
end
end DD

namespace DD
open PySem PySem.Spec PyProof.Rows L2
def pd : Option Int → D
  | none => .none
  | some k => .int k
theorem pd_none : pd none = .none := rfl
theorem pd_some {k : Int} : pd (some k) = .int k := rfl
abbrev vD (a b c : Int) (p : Option Int) : D := .tuple [.int a, .int b, .int c, pd p]
def pok (p : Option Int) : Prop := ∀ k, p = some k → 0 ≤ k ∧ k < 1000

/-! ### running a denotation, step by step -/
def RX (f : FX) (e : ES) (Q : Rv → ES → Prop) : Prop := ∃ r e', f e = some (r, e') ∧ Q r e'
def RT (f : FT) (e : ES) (Q : Bool → ES → Prop) : Prop := ∃ r e', f e = some (r, e') ∧ Q r e'
def RA (f : FA) (e : ES) (Q : List Rv → ES → Prop) : Prop := ∃ r e', f e = some (r, e') ∧ Q r e'
def RL (f : FL) (e : ES) (Q : List D → ES → Prop) : Prop := ∃ r e', f e = some (r, e') ∧ Q r e'
def RS (f : FS) (e : ES) (Q : Out → ES → Prop) : Prop := ∃ r e', f e = some (r, e') ∧ Q r e'
def RO (f : FO) (e : ES) (Q : Option Int → ES → Prop) : Prop := ∃ r e', f e = some (r, e') ∧ Q r e'
def RG (g : FG) (d : D) (e : ES) (Q : ES → Prop) : Prop := ∃ e', g d e = some e' ∧ Q e'
/-- reading, giving away -/
def RD (e : ES) (r : Rv) (K : D → Prop) : Prop := ∃ d, rd e r = some d ∧ K d
def RDs (e : ES) (r : List Rv) (K : List D → Prop) : Prop := ∃ d, rds e r = some d ∧ K d
def FZ (r : Rv) (e : ES) (K : D → ES → Prop) : Prop := ∃ d e', fz r e = some (d, e') ∧ K d e'
def FZs (r : List Rv) (e : ES) (K : List D → ES → Prop) : Prop := ∃ d e', fzs r e = some (d, e') ∧ K d e'
/-- an operation, a call -/
def O1 (g : D → Option D) (a : D) (K : D → Prop) : Prop := ∃ d, g a = some d ∧ K d
def O2 (g : D → D → Option D) (a b : D) (K : D → Prop) : Prop := ∃ d, g a b = some d ∧ K d
def O2L (g : D → D → Option (List D)) (a b : D) (K : List D → Prop) : Prop := ∃ d, g a b = some d ∧ K d
def C1 (g : List D → Option D) (a : List D) (K : D → Prop) : Prop := ∃ d, g a = some d ∧ K d
def CL (g : List D → Option (List D)) (a : List D) (K : List D → Prop) : Prop := ∃ d, g a = some d ∧ K d
def CT (g : FTp) (τ : Tp) (a : List D) (K : D → Tp → Prop) : Prop := ∃ d τ', g τ a = some (d, τ') ∧ K d τ'
/-- a branch -/
def IFB (b : Bool) (A B : Prop) : Prop := (b = true → A) ∧ (b = false → B)
section
variable {a b c x : FX} {t u : FT} {f g h : FS} {fa : FA} {fl : FL} {e : ES} {Q : Rv → ES → Prop} {QT : Bool → ES → Prop} {QA : List Rv → ES → Prop} {QL : List D → ES → Prop} {QS : Out → ES → Prop} {QO : Option Int → ES → Prop}
theorem ifb_t {A B : Prop} (h : A) : IFB true A B := ⟨fun _ => h, fun z => (nomatch z)⟩
theorem ifb_f {A B : Prop} (h : B) : IFB false A B := ⟨fun z => (nomatch z), fun _ => h⟩
theorem ifb_d {P : Prop} [i : Decidable P] {A B : Prop} (h1 : P → A) (h2 : ¬ P → B) : IFB (decide P) A B := ⟨fun h => h1 (of_decide_eq_true h), fun h => h2 (of_decide_eq_false h)⟩
theorem ifb_dt {P : Prop} [i : Decidable P] {A B : Prop} (p : P) (h1 : A) : IFB (decide P) A B := ifb_d (fun _ => h1) fun n => absurd p n
theorem ifb_df {P : Prop} [i : Decidable P] {A B : Prop} (p : ¬ P) (h1 : B) : IFB (decide P) A B := ifb_d (fun n => absurd n p) fun _ => h1
theorem ifb_bt {b : Bool} {A B : Prop} (h : b = true) (k : A) : IFB b A B := by subst h; exact ifb_t k
theorem ifb_bf {b : Bool} {A B : Prop} (h : b = false) (k : B) : IFB b A B := by subst h; exact ifb_f k
theorem ifb_c {b : Bool} {A B : Prop} (h1 : b = true → A) (h2 : b = false → B) : IFB b A B := ⟨h1, h2⟩
theorem ifb_nt {A B : Prop} (h : A) : IFB (isNoneD .none) A B := ifb_t h
theorem ifb_ni {i : Int} {A B : Prop} (h : B) : IFB (isNoneD (.int i)) A B := ifb_f h
theorem ifb_nit {x : List D} {A B : Prop} (h : B) : IFB (isNoneD (.tuple x)) A B := ifb_f h
theorem ifb_not {b : Bool} {A B : Prop} (h : IFB b B A) : IFB (!b) A B := by
  cases b
  · exact ⟨fun _ => h.2 rfl, fun z => (nomatch z)⟩
  · exact ⟨fun z => (nomatch z), fun _ => h.1 rfl⟩
theorem rd_d {d : D} {K : D → Prop} (k : K d) : RD e (.d d) K := ⟨d, rfl, k⟩
theorem rd_o {i : Nat} {xs : List D} {K : D → Prop} (h : e.sl[i]? = some (.own xs)) (k : K (.list xs)) : RD e (.own i) K := ⟨.list xs, by unfold rd; dsimp only; rw [h], k⟩
theorem rds_n {K : List D → Prop} (k : K []) : RDs e [] K := ⟨[], rfl, k⟩
theorem rds_c {r : Rv} {rs : List Rv} {K : List D → Prop} (k : RD e r fun d => RDs e rs fun ds => K (d :: ds)) : RDs e (r :: rs) K := by
  obtain ⟨d, h1, ds, h2, k⟩ := k
  exact ⟨_, by unfold rds; rw [h1]; dsimp only; rw [h2]; rfl, k⟩
theorem fz_d {d : D} {K : D → ES → Prop} (k : K d e) : FZ (.d d) e K := ⟨d, e, rfl, k⟩
theorem fz_o {i : Nat} {xs : List D} {K : D → ES → Prop} (h : e.sl[i]? = some (.own xs)) (k : K (.list xs) (e.set i (.d (.list xs)))) : FZ (.own i) e K := ⟨.list xs, _, by unfold fz; dsimp only; rw [h], k⟩
theorem fz_od {i : Nat} {d : D} {K : D → ES → Prop} (h : e.sl[i]? = some (.d d)) (k : K d e) : FZ (.own i) e K := ⟨d, _, by unfold fz; dsimp only; rw [h], k⟩
theorem fzs_n {K : List D → ES → Prop} (k : K [] e) : FZs [] e K := ⟨[], e, rfl, k⟩
theorem fzs_c {r : Rv} {rs : List Rv} {K : List D → ES → Prop} (k : FZ r e fun d e1 => FZs rs e1 fun ds e2 => K (d :: ds) e2) : FZs (r :: rs) e K := by
  obtain ⟨d, e1, h1, ds, e2, h2, k⟩ := k
  exact ⟨_, _, by unfold fzs; rw [h1]; dsimp only; rw [h2], k⟩
/-! expressions -/
theorem rx_c {d : D} (k : Q (.d d) e) : RX (xC d) e Q := ⟨_, _, rfl, k⟩
theorem rx_v {i : Nat} {d : D} (h : e.sl[i]? = some (.d d)) (k : Q (.d d) e) : RX (xVar i) e Q := ⟨_, _, by unfold xVar; rw [h], k⟩
theorem rx_vo {i : Nat} {xs : List D} (h : e.sl[i]? = some (.own xs)) (k : Q (.own i) e) : RX (xVar i) e Q := ⟨_, _, by unfold xVar; rw [h], k⟩
theorem rx_vt {i : Nat} (h : e.sl[i]? = some .tape) (k : Q .tape e) : RX (xVar i) e Q := ⟨_, _, by unfold xVar; rw [h], k⟩
theorem rx_bin {o : D → D → Option D} (k : RX a e fun r1 e1 => RX b e1 fun r2 e2 => RD e2 r1 fun d1 => RD e2 r2 fun d2 => O2 o d1 d2 fun d => Q (.d d) e2) : RX (xBin o a b) e Q := by
  obtain ⟨r1, e1, h1, r2, e2, h2, d1, h3, d2, h4, d, h5, k⟩ := k
  exact ⟨_, _, by unfold xBin; rw [h1]; dsimp only; rw [h2]; dsimp only; rw [h3]; dsimp only; rw [h4]; dsimp only; rw [h5], k⟩
theorem rx_un {o : D → Option D} (k : RX a e fun r1 e1 => RD e1 r1 fun d1 => O1 o d1 fun d => Q (.d d) e1) : RX (xUn o a) e Q := by
  obtain ⟨r1, e1, h1, d1, h3, d, h5, k⟩ := k
  exact ⟨_, _, by unfold xUn; rw [h1]; dsimp only; rw [h3]; dsimp only; rw [h5], k⟩
theorem rx_l (k : RL fl e fun xs e1 => Q (.d (.list xs)) e1) : RX (xL fl) e Q := by
  obtain ⟨r1, e1, h1, k⟩ := k
  exact ⟨_, _, by unfold xL; rw [h1], k⟩
theorem ra_n (k : QA [] e) : RA aNil e QA := ⟨_, _, rfl, k⟩
theorem ra_c (k : RX a e fun r e1 => RA fa e1 fun rs e2 => QA (r :: rs) e2) : RA (aCons a fa) e QA := by
  obtain ⟨r1, e1, h1, r2, e2, h2, k⟩ := k
  exact ⟨_, _, by unfold aCons; rw [h1]; dsimp only; rw [h2], k⟩
theorem rx_tup (k : RA fa e fun rs e1 => FZs rs e1 fun ds e2 => ds.length ≤ 16000000 ∧ Q (.d (.tuple ds)) e2) : RX (xTup fa) e Q := by
  obtain ⟨r1, e1, h1, r2, e2, h2, h3, k⟩ := k
  exact ⟨_, _, by unfold xTup; rw [h1]; dsimp only; rw [h2]; dsimp only; rw [if_pos h3], k⟩
theorem rl_lst (k : RA fa e fun rs e1 => FZs rs e1 fun ds e2 => ds.length ≤ 16000000 ∧ QL ds e2) : RL (xLst fa) e QL := by
  obtain ⟨r1, e1, h1, r2, e2, h2, h3, k⟩ := k
  exact ⟨_, _, by unfold xLst; rw [h1]; dsimp only; rw [h2]; dsimp only; rw [if_pos h3], k⟩
theorem rl_bin {o : D → D → Option (List D)} (k : RX a e fun r1 e1 => RX b e1 fun r2 e2 => RD e2 r1 fun d1 => RD e2 r2 fun d2 => O2L o d1 d2 fun d => QL d e2) : RL (xBinL o a b) e QL := by
  obtain ⟨r1, e1, h1, r2, e2, h2, d1, h3, d2, h4, d, h5, k⟩ := k
  exact ⟨_, _, by unfold xBinL; rw [h1]; dsimp only; rw [h2]; dsimp only; rw [h3]; dsimp only; rw [h4]; dsimp only; rw [h5], k⟩
theorem rx_call {o : List D → Option D} (k : RA fa e fun rs e1 => RDs e1 rs fun ds => C1 o ds fun d => (rs.all Rv.isD || scal d) = true ∧ Q (.d d) e1) : RX (xFn o fa) e Q := by
  obtain ⟨r1, e1, h1, ds, h2, d, h3, h4, k⟩ := k
  exact ⟨_, _, by unfold xFn; rw [h1]; dsimp only; rw [h2]; dsimp only; rw [h3]; dsimp only; rw [if_pos h4], k⟩
/-- a call to which lists of one's own are given away -/
theorem rx_callZ {o : List D → Option D} (k : RA fa e fun rs e1 => ∃ ds0 d0, rds e1 rs = some ds0 ∧ o ds0 = some d0 ∧ (rs.all Rv.isD || scal d0) = false ∧ FZs rs e1 fun ds e2 => C1 o ds fun d => Q (.d d) e2) : RX (xFn o fa) e Q := by
  obtain ⟨rs, e1, h1, ds0, d0, h2, h3, h4, ds, e2, h5, d, h6, k⟩ := k
  exact ⟨_, _, by unfold xFn; rw [h1]; dsimp only; rw [h2]; dsimp only; rw [h3]; dsimp only; rw [if_neg (by rw [h4]; decide), h5]; dsimp only; rw [h6], k⟩
theorem rl_call {o : List D → Option (List D)} (k : RA fa e fun rs e1 => RDs e1 rs fun ds => CL o ds fun d => rs.all Rv.isD = true ∧ QL d e1) : RL (xFnL o fa) e QL := by
  obtain ⟨r1, e1, h1, ds, h2, d, h3, h4, k⟩ := k
  exact ⟨_, _, by unfold xFnL; rw [h1]; dsimp only; rw [h2]; dsimp only; rw [h3]; dsimp only; rw [if_pos h4], k⟩
theorem rx_callT {o : FTp} {sl : List Sl} {τ : Tp} {as : List Rv} (h : fa e = some (.tape :: as, ⟨sl, some τ⟩)) (k : RDs ⟨sl, some τ⟩ as fun ds => CT o τ ds fun d τ' => as.all Rv.isD = true ∧ Q (.d d) ⟨sl, some τ'⟩) : RX (xFnT o fa) e Q := by
  obtain ⟨ds, h2, d, τ', h3, h4, k⟩ := k
  refine ⟨_, _, ?_, k⟩
  unfold xFnT; rw [h]; dsimp only; rw [h2]; dsimp only; rw [h3]; dsimp only; rw [if_pos h4]
theorem rx_callT' {o : FTp} (k : RA fa e fun rs e1 => ∃ as τ, rs = .tape :: as ∧ e1.tp = some τ ∧ RDs e1 as fun ds => CT o τ ds fun d τ' => as.all Rv.isD = true ∧ Q (.d d) ⟨e1.sl, some τ'⟩) : RX (xFnT o fa) e Q := by
  obtain ⟨rs, ⟨sl, tp⟩, h1, as, τ, rfl, h2, k⟩ := k
  cases h2
  exact rx_callT h1 k
theorem rx_b {o : List D → Option D} (k : RA fa e fun rs e1 => RDs e1 rs fun ds => C1 o ds fun d => Q (.d d) e1) : RX (xCall o fa) e Q := by
  obtain ⟨r1, e1, h1, ds, h2, d, h3, k⟩ := k
  exact ⟨_, _, by unfold xCall; rw [h1]; dsimp only; rw [h2]; dsimp only; rw [h3], k⟩
theorem rl_b {o : List D → Option (List D)} (k : RA fa e fun rs e1 => RDs e1 rs fun ds => CL o ds fun d => QL d e1) : RL (xCallL o fa) e QL := by
  obtain ⟨r1, e1, h1, ds, h2, d, h3, k⟩ := k
  exact ⟨_, _, by unfold xCallL; rw [h1]; dsimp only; rw [h2]; dsimp only; rw [h3], k⟩
theorem rx_and (k : RX a e fun r e1 => ∃ k0, r = .d (.bool k0) ∧ IFB k0 (RX b e1 Q) (Q (.d (.bool false)) e1)) : RX (xAnd a b) e Q := by
  obtain ⟨r1, e1, h1, k0, rfl, k1, k2⟩ := k
  cases k0
  · exact ⟨_, _, by unfold xAnd; rw [h1], k2 rfl⟩
  · obtain ⟨r2, e2, h2, k⟩ := k1 rfl
    exact ⟨_, _, by unfold xAnd; rw [h1]; dsimp only; rw [h2], k⟩
theorem rx_or (k : RX a e fun r e1 => ∃ k0, r = .d (.bool k0) ∧ IFB k0 (Q (.d (.bool true)) e1) (RX b e1 Q)) : RX (xOr a b) e Q := by
  obtain ⟨r1, e1, h1, k0, rfl, k1, k2⟩ := k
  cases k0
  · obtain ⟨r2, e2, h2, k⟩ := k2 rfl
    exact ⟨_, _, by unfold xOr; rw [h1]; dsimp only; rw [h2], k⟩
  · exact ⟨_, _, by unfold xOr; rw [h1], k1 rfl⟩
theorem rx_if (k : RT t e fun k0 e1 => IFB k0 (RX a e1 Q) (RX b e1 Q)) : RX (xIf t a b) e Q := by
  obtain ⟨k0, e1, h1, k1, k2⟩ := k
  cases k0
  · obtain ⟨r2, e2, h2, k⟩ := k2 rfl
    exact ⟨_, _, by unfold xIf; rw [h1]; dsimp only; rw [h2], k⟩
  · obtain ⟨r2, e2, h2, k⟩ := k1 rfl
    exact ⟨_, _, by unfold xIf; rw [h1]; dsimp only; rw [h2], k⟩
theorem rx_chain {o o' : D → D → Option D} (k : RX a e fun r1 e1 => RX b e1 fun r2 e2 => RD e2 r1 fun d1 => RD e2 r2 fun d2 => O2 o d1 d2 fun d => ∃ k0, d = .bool k0 ∧ IFB k0 (RX c e2 fun r3 e3 => RD e3 r2 fun d2' => RD e3 r3 fun d3 => O2 o' d2' d3 fun d => Q (.d d) e3) (Q (.d (.bool false)) e2)) : RX (xChain o o' a b c) e Q := by
  obtain ⟨r1, e1, h1, r2, e2, h2, d1, h3, d2, h4, d, h5, k0, rfl, k1, k2⟩ := k
  cases k0
  · exact ⟨_, _, by unfold xChain; rw [h1]; dsimp only; rw [h2]; dsimp only; rw [h3]; dsimp only; rw [h4]; dsimp only; rw [h5], k2 rfl⟩
  · obtain ⟨r3, e3, h6, d2', h7, d3, h8, d, h9, k⟩ := k1 rfl
    exact ⟨_, _, by unfold xChain; rw [h1]; dsimp only; rw [h2]; dsimp only; rw [h3]; dsimp only; rw [h4]; dsimp only; rw [h5]; dsimp only; rw [h6]; dsimp only; rw [h7]; dsimp only; rw [h8]; dsimp only; rw [h9], k⟩
theorem rx_tp {i k : Nat} {τ : Tp} {d : D} (h : e.sl[i]? = some .tape) (h2 : e.tp = some τ) (h3 : τ.get k = some d) (q : Q (.d d) e) : RX (xTp i k) e Q := ⟨_, _, by unfold xTp; rw [h, h2]; dsimp only; rw [h3]; rfl, q⟩
theorem ro_n (k : QO none e) : RO oNone e QO := ⟨_, _, rfl, k⟩
theorem ro_s (k : RX a e fun r e1 => ∃ i, r = .d (.int i) ∧ QO (some i) e1) : RO (oSome a) e QO := by
  obtain ⟨r1, e1, h1, i, rfl, k⟩ := k
  exact ⟨_, _, by unfold oSome; rw [h1], k⟩
theorem rx_sl {l u : FO} (k : RX a e fun r e1 => RO l e1 fun lo e2 => RO u e2 fun hi e3 => RD e3 r fun d => O1 (fun d => gSl d lo hi) d fun x => Q (.d x) e3) : RX (xSl a l u) e Q := by
  obtain ⟨r1, e1, h1, lo, e2, h2, hi, e3, h3, d, h4, x, h5, k⟩ := k
  exact ⟨_, _, by unfold xSl; rw [h1]; dsimp only; rw [h2]; dsimp only; rw [h3]; dsimp only; rw [h4]; dsimp only at h5 ⊢; rw [h5], k⟩
theorem o_slL {xs : List D} {lo hi : Option Int} {K : List D → Prop} (k : K (cutD xs lo hi)) : ∃ x, gSlL (.list xs) lo hi = some x ∧ K x := ⟨_, rfl, k⟩
theorem rl_sl {l u : FO} (k : RX a e fun r e1 => RO l e1 fun lo e2 => RO u e2 fun hi e3 => RD e3 r fun d => ∃ x, gSlL d lo hi = some x ∧ QL x e3) : RL (xSlL a l u) e QL := by
  obtain ⟨r1, e1, h1, lo, e2, h2, hi, e3, h3, d, h4, x, h5, k⟩ := k
  exact ⟨_, _, by unfold xSlL; rw [h1]; dsimp only; rw [h2]; dsimp only; rw [h3]; dsimp only; rw [h4]; dsimp only; rw [h5], k⟩
theorem rx_isi {ts : List String} (k : RX a e fun r e1 => RD e1 r fun d => notDct d = true ∧ Q (.d (.bool (ts.any (isiB (tyS d))))) e1) : RX (xIsi ts a) e Q := by
  obtain ⟨r1, e1, h1, d, h2, h3, k⟩ := k
  exact ⟨_, _, by unfold xIsi; rw [h1]; dsimp only; rw [h2]; dsimp only; rw [if_pos h3], k⟩
theorem rx_part {ws : List Str} {y1 z1 y2 z2 : Str} (k : RX a e fun r e1 => ∃ x j, r = .d (.str x) ∧ (replOk x z1 && replOk (Txt.replace x y1 z1) z2) = true ∧ idxOf (Txt.replace (Txt.replace x y1 z1) y2 z2) ws = some j ∧ Q (.d (.int (j : Nat))) e1) : RX (xPart ws y1 z1 y2 z2 a) e Q := by
  obtain ⟨r1, e1, h1, x, j, rfl, h2, h3, k⟩ := k
  exact ⟨_, _, by unfold xPart; rw [h1]; dsimp only; rw [if_pos h2, h3], k⟩
def ISV (ts : List String) (d : D) (K : Bool → Prop) : Prop := K (ts.any (isiB (tyS d)))
theorem isv_t {ts : List String} {d : D} {K : Bool → Prop} (h : ts.any (isiB (tyS d)) = true) (k : K true) : ISV ts d K := by unfold ISV; rw [h]; exact k
theorem isv_f {ts : List String} {d : D} {K : Bool → Prop} (h : ts.any (isiB (tyS d)) = false) (k : K false) : ISV ts d K := by unfold ISV; rw [h]; exact k
theorem rx_isiV {ts : List String} (k : RX a e fun r e1 => RD e1 r fun d => notDct d = true ∧ ISV ts d fun b => Q (.d (.bool b)) e1) : RX (xIsi ts a) e Q := rx_isi k
/-! tests -/
theorem rt_of (k : RX a e fun r e1 => ∃ k0, r = .d (.bool k0) ∧ QT k0 e1) : RT (tOf a) e QT := by
  obtain ⟨r1, e1, h1, k0, rfl, k⟩ := k
  exact ⟨_, _, by unfold tOf; rw [h1], k⟩
theorem rt_true (k : QT true e) : RT tTrue e QT := ⟨_, _, rfl, k⟩
theorem rt_not (k : RT t e fun k0 e1 => QT (!k0) e1) : RT (tNot t) e QT := by
  obtain ⟨k0, e1, h1, k⟩ := k
  exact ⟨_, _, by unfold tNot; rw [h1], k⟩
theorem rt_and (k : RT t e fun k0 e1 => IFB k0 (RT u e1 QT) (QT false e1)) : RT (tAnd t u) e QT := by
  obtain ⟨k0, e1, h1, k1, k2⟩ := k
  cases k0
  · exact ⟨_, _, by unfold tAnd; rw [h1], k2 rfl⟩
  · obtain ⟨r2, e2, h2, k⟩ := k1 rfl
    exact ⟨_, _, by unfold tAnd; rw [h1]; dsimp only; rw [h2], k⟩
theorem rt_or (k : RT t e fun k0 e1 => IFB k0 (QT true e1) (RT u e1 QT)) : RT (tOr t u) e QT := by
  obtain ⟨k0, e1, h1, k1, k2⟩ := k
  cases k0
  · obtain ⟨r2, e2, h2, k⟩ := k2 rfl
    exact ⟨_, _, by unfold tOr; rw [h1]; dsimp only; rw [h2], k⟩
  · exact ⟨_, _, by unfold tOr; rw [h1], k1 rfl⟩
/-! what is walked -/
def ITM (d : D) (K : List D → Prop) : Prop := ∃ xs, (d = .list xs ∨ d = .tuple xs) ∧ K xs
theorem itm_l {xs : List D} {K : List D → Prop} (k : K xs) : ITM (.list xs) K := ⟨xs, .inl rfl, k⟩
theorem itm_t {xs : List D} {K : List D → Prop} (k : K xs) : ITM (.tuple xs) K := ⟨xs, .inr rfl, k⟩
def ZPM (ds : List D) (K : List D → Prop) : Prop := ∃ xs ys, (ds = [.list xs, .list ys] ∨ ds = [.tuple xs, .tuple ys]) ∧ K (zipD xs ys)
theorem zpm_l {xs ys : List D} {K : List D → Prop} (k : K (zipD xs ys)) : ZPM [.list xs, .list ys] K := ⟨xs, ys, .inl rfl, k⟩
theorem zpm_t {xs ys : List D} {K : List D → Prop} (k : K (zipD xs ys)) : ZPM [.tuple xs, .tuple ys] K := ⟨xs, ys, .inr rfl, k⟩
theorem rl_items (k : RX a e fun r e1 => FZ r e1 fun d e2 => ITM d fun xs => QL xs e2) : RL (iItems a) e QL := by
  obtain ⟨r1, e1, h1, d, e2, h2, xs, rfl | rfl, k⟩ := k
  · exact ⟨_, _, by unfold iItems; rw [h1]; dsimp only; rw [h2], k⟩
  · exact ⟨_, _, by unfold iItems; rw [h1]; dsimp only; rw [h2], k⟩
theorem rl_range1 (k : RA fa e fun rs e1 => RDs e1 rs fun ds => ∃ j, ds = [.int j] ∧ okR j = true ∧ QL (rangeD 0 j.toNat) e1) : RL (iRange1 fa) e QL := by
  obtain ⟨r1, e1, h1, ds, h2, j, rfl, h3, k⟩ := k
  exact ⟨_, _, by unfold iRange1; rw [h1]; dsimp only; rw [h2]; dsimp only; rw [if_pos h3], k⟩
theorem rl_range2 (k : RA fa e fun rs e1 => RDs e1 rs fun ds => ∃ i j, ds = [.int i, .int j] ∧ (okR i && okR j) = true ∧ QL (rangeD i (j - i).toNat) e1) : RL (iRange2 fa) e QL := by
  obtain ⟨r1, e1, h1, ds, h2, i, j, rfl, h3, k⟩ := k
  exact ⟨_, _, by unfold iRange2; rw [h1]; dsimp only; rw [h2]; dsimp only; rw [if_pos h3], k⟩
theorem rl_zip (k : RA fa e fun rs e1 => FZs rs e1 fun ds e2 => ZPM ds fun zs => QL zs e2) : RL (iZipD fa) e QL := by
  obtain ⟨r1, e1, h1, ds, e2, h2, xs, ys, rfl | rfl, k⟩ := k
  · exact ⟨_, _, by unfold iZipD; rw [h1]; dsimp only; rw [h2], k⟩
  · exact ⟨_, _, by unfold iZipD; rw [h1]; dsimp only; rw [h2], k⟩
theorem rl_enum (k : RA fa e fun rs e1 => FZs rs e1 fun ds e2 => ∃ xs, ds = [.list xs] ∧ QL (enumD 0 xs) e2) : RL (iEnumD fa) e QL := by
  obtain ⟨r1, e1, h1, ds, e2, h2, xs, rfl, k⟩ := k
  exact ⟨_, _, by unfold iEnumD; rw [h1]; dsimp only; rw [h2], k⟩
theorem rl_str (k : RX a e fun r e1 => ∃ z, r = .d (.str z) ∧ QL (signsD z) e1) : RL (iStrD a) e QL := by
  obtain ⟨r1, e1, h1, z, rfl, k⟩ := k
  exact ⟨_, _, by unfold iStrD; rw [h1], k⟩
/-! targets -/
theorem rg_name {i : Nat} {d : D} {K : ES → Prop} (k : K (e.set i (.d d))) : RG (kName i) d e K := ⟨_, rfl, k⟩
theorem rg_tup {is : List Nat} {ds : List D} {e' : ES} {K : ES → Prop} (h : kNames is ds e = some e') (k : K e') : RG (kTup is) (.tuple ds) e K := ⟨_, h, k⟩
/-! statements -/
theorem rs_nx (k : QS .nx e) : RS gNx e QS := ⟨_, _, rfl, k⟩
theorem rs_bk (k : QS .bk e) : RS gBk e QS := ⟨_, _, rfl, k⟩
theorem rs_ct (k : QS .ct e) : RS gCt e QS := ⟨_, _, rfl, k⟩
/-- what comes behind a statement -/
def NX (g : FS) (QS : Out → ES → Prop) : Out → ES → Prop
  | .nx, e => RS g e QS
  | o, e => QS o e
theorem rs_seq (k : RS f e (NX g QS)) : RS (gSeq f g) e QS := by
  obtain ⟨o, e1, h1, k⟩ := k
  cases o with
  | nx =>
    obtain ⟨o, e2, h2, k⟩ := k
    exact ⟨_, _, by unfold gSeq; rw [h1]; dsimp only; rw [h2], k⟩
  | _ => exact ⟨_, _, by unfold gSeq; rw [h1], k⟩
theorem rs_cut (I : ES → Prop) (h : RS f e fun o e1 => o = .nx ∧ I e1) (k : ∀ e1, I e1 → RS g e1 QS) : RS (gSeq f g) e QS := by
  obtain ⟨o, e1, h1, rfl, h2⟩ := h
  exact rs_seq ⟨_, _, h1, k e1 h2⟩
theorem nx_nx (k : RS g e QS) : NX g QS .nx e := k
theorem nx_rt {r : Rv} (k : QS (.rt r) e) : NX g QS (.rt r) e := k
theorem nx_rtL {r : List D} (k : QS (.rtL r) e) : NX g QS (.rtL r) e := k
theorem nx_bk (k : QS .bk e) : NX g QS .bk e := k
theorem nx_ct (k : QS .ct e) : NX g QS .ct e := k
theorem rs_ret (k : RX a e fun r e1 => QS (.rt r) e1) : RS (gRet a) e QS := by
  obtain ⟨r1, e1, h1, k⟩ := k
  exact ⟨_, _, by unfold gRet; rw [h1], k⟩
theorem rs_retL (k : RL fl e fun r e1 => QS (.rtL r) e1) : RS (gRetL fl) e QS := by
  obtain ⟨r1, e1, h1, k⟩ := k
  exact ⟨_, _, by unfold gRetL; rw [h1], k⟩
theorem rs_if (k : RT t e fun k0 e1 => IFB k0 (RS f e1 QS) (RS g e1 QS)) : RS (gIf t f g) e QS := by
  obtain ⟨k0, e1, h1, k1, k2⟩ := k
  cases k0
  · obtain ⟨r2, e2, h2, k⟩ := k2 rfl
    exact ⟨_, _, by unfold gIf; rw [h1]; dsimp only; rw [h2], k⟩
  · obtain ⟨r2, e2, h2, k⟩ := k1 rfl
    exact ⟨_, _, by unfold gIf; rw [h1]; dsimp only; rw [h2], k⟩
theorem rs_set {i : Nat} (k : RX a e fun r e1 => FZ r e1 fun d e2 => QS .nx (e2.set i (.d d))) : RS (gSet i a) e QS := by
  obtain ⟨r1, e1, h1, d, e2, h2, k⟩ := k
  exact ⟨_, _, by unfold gSet; rw [h1]; dsimp only; rw [h2], k⟩
theorem rs_own {i : Nat} (k : RL fl e fun xs e1 => QS .nx (e1.set i (.own xs))) : RS (gOwn i fl) e QS := by
  obtain ⟨r1, e1, h1, k⟩ := k
  exact ⟨_, _, by unfold gOwn; rw [h1], k⟩
theorem rs_asg {gt : FG} (k : RX a e fun r e1 => FZ r e1 fun d e2 => RG gt d e2 fun e3 => QS .nx e3) : RS (gAsg a gt) e QS := by
  obtain ⟨r1, e1, h1, d, e2, h2, e3, h3, k⟩ := k
  exact ⟨_, _, by unfold gAsg; rw [h1]; dsimp only; rw [h2]; dsimp only; rw [h3], k⟩
theorem rs_drop (k : RX a e fun r e1 => QS .nx e1) : RS (gDrop a) e QS := by
  obtain ⟨r1, e1, h1, k⟩ := k
  exact ⟨_, _, by unfold gDrop; rw [h1], k⟩
def PAR (ds : List D) (K : D → D → Prop) : Prop := ∃ d1 d2, ds = [d1, d2] ∧ K d1 d2
theorem par2 {d1 d2 : D} {K : D → D → Prop} (k : K d1 d2) : PAR [d1, d2] K := ⟨d1, d2, rfl, k⟩
theorem rs_par {i j : Nat} (k : RA fa e fun rs e1 => FZs rs e1 fun ds e2 => PAR ds fun d1 d2 => QS .nx ((e2.set i (.d d1)).set j (.d d2))) : RS (gPar i j fa) e QS := by
  obtain ⟨r1, e1, h1, ds, e2, h2, d1, d2, rfl, k⟩ := k
  exact ⟨_, _, by unfold gPar; rw [h1]; dsimp only; rw [h2], k⟩
theorem rs_aug {i : Nat} {o : Int → Int → Int} {n : Int} (h : e.sl[i]? = some (.d (.int n))) (k : RX a e fun r e1 => ∃ m, r = .d (.int m) ∧ QS .nx (e1.set i (.d (.int (o n m))))) : RS (gAug i o a) e QS := by
  obtain ⟨r1, e1, h1, m, rfl, k⟩ := k
  exact ⟨_, _, by unfold gAug; rw [h]; dsimp only; rw [h1], k⟩
def TPW (i j : Nat) (r : Rv) (e : ES) (K : ES → Prop) : Prop := ∃ n τ τ', r = .d (.int n) ∧ e.sl[i]? = some .tape ∧ e.tp = some τ ∧ τ.put j n = some τ' ∧ K ⟨e.sl, some τ'⟩
theorem tpw {i j : Nat} {n : Int} {τ τ' : Tp} {K : ES → Prop} (h1 : e.sl[i]? = some .tape) (h2 : e.tp = some τ) (h3 : τ.put j n = some τ') (k : K ⟨e.sl, some τ'⟩) : TPW i j (.d (.int n)) e K := ⟨n, τ, τ', rfl, h1, h2, h3, k⟩
theorem rs_tp {i j : Nat} (k : RX a e fun r e1 => TPW i j r e1 fun e2 => QS .nx e2) : RS (gTp i j a) e QS := by
  obtain ⟨r1, e1, h1, n, τ, τ', rfl, h2, h3, h4, k⟩ := k
  exact ⟨_, _, by unfold gTp; rw [h1]; dsimp only; rw [h2, h3]; dsimp only; rw [h4], k⟩
def RLoop (gt : FG) (body : FS) (ds : List D) (e : ES) (QS : Out → ES → Prop) : Prop := ∃ o e', loopF gt body ds e = some (o, e') ∧ QS o e'
theorem rs_for {gt : FG} (k : RL fl e fun ds e1 => RLoop gt f ds e1 QS) : RS (gFor fl gt f) e QS := by
  obtain ⟨r1, e1, h1, o, e2, h2, k⟩ := k
  exact ⟨_, _, by unfold gFor; rw [h1]; dsimp only; rw [h2], k⟩
/-- what comes behind a turn -/
def LX (gt : FG) (body : FS) (ds : List D) (QS : Out → ES → Prop) : Out → ES → Prop
  | .nx, e => RLoop gt body ds e QS
  | .ct, e => RLoop gt body ds e QS
  | .bk, e => QS .nx e
  | .rt r, e => QS (.rt r) e
  | .rtL r, e => QS (.rtL r) e
theorem loop_n {gt : FG} (k : QS .nx e) : RLoop gt f [] e QS := ⟨_, _, rfl, k⟩
theorem loop_c {gt : FG} {d : D} {ds : List D} (k : RG gt d e fun e1 => RS f e1 (LX gt f ds QS)) : RLoop gt f (d :: ds) e QS := by
  obtain ⟨e1, h1, o, e2, h2, k⟩ := k
  cases o with
  | nx => obtain ⟨o, e3, h3, k⟩ := k; exact ⟨_, _, by unfold loopF; rw [h1]; dsimp only; rw [h2]; dsimp only; rw [h3], k⟩
  | ct => obtain ⟨o, e3, h3, k⟩ := k; exact ⟨_, _, by unfold loopF; rw [h1]; dsimp only; rw [h2]; dsimp only; rw [h3], k⟩
  | _ => exact ⟨_, _, by unfold loopF; rw [h1]; dsimp only; rw [h2], k⟩
theorem lx_nx {gt : FG} {ds : List D} (k : RLoop gt f ds e QS) : LX gt f ds QS .nx e := k
theorem lx_ct {gt : FG} {ds : List D} (k : RLoop gt f ds e QS) : LX gt f ds QS .ct e := k
theorem lx_bk {gt : FG} {ds : List D} (k : QS .nx e) : LX gt f ds QS .bk e := k
theorem lx_rt {gt : FG} {ds : List D} {r : Rv} (k : QS (.rt r) e) : LX gt f ds QS (.rt r) e := k
theorem lx_rtL {gt : FG} {ds : List D} {r : List D} (k : QS (.rtL r) e) : LX gt f ds QS (.rtL r) e := k
/-- a loop with an invariant that always goes on -/
theorem loop_inv {f : FS} {QS : Out → ES → Prop} {gt : FG} (I : ES → Prop) : ∀ {ds : List D} {e : ES}, I e → (∀ d ∈ ds, ∀ e, I e → RG gt d e fun e1 => RS f e1 fun o e2 => (o = .nx ∨ o = .ct) ∧ I e2) → (∀ e, I e → QS .nx e) → RLoop gt f ds e QS
  | [], e, h, _, k => loop_n (k e h)
  | d :: ds, e, h, s, k => by
    obtain ⟨e1, h1, o, e2, h2, ho, hi⟩ := s d (by simp) e h
    refine loop_c ⟨e1, h1, o, e2, h2, ?_⟩
    have r := loop_inv (ds := ds) I hi (fun d' m => s d' (by simp [m])) k
    rcases ho with rfl | rfl
    · exact r
    · exact r
/-- .. over the places -/
theorem loop_at {f : FS} {QS : Out → ES → Prop} {gt : FG} (I : Nat → ES → Prop) {ds : List D} : ∀ (n i : Nat) {e : ES}, n = ds.length - i → i ≤ ds.length → I i e → (∀ i d, ds[i]? = some d → ∀ e, I i e → RG gt d e fun e1 => RS f e1 fun o e2 => (o = .nx ∨ o = .ct) ∧ I (i + 1) e2) → (∀ e, I ds.length e → QS .nx e) → RLoop gt f (ds.drop i) e QS
  | 0, i, e, hn, hi, h, s, k => by
    have : i = ds.length := by omega
    subst this
    rw [List.drop_length]
    exact loop_n (k e h)
  | n + 1, i, e, hn, hi, h, s, k => by
    have hlt : i < ds.length := by omega
    have hd : ds[i]? = some ds[i] := by simp [hlt]
    rw [List.drop_eq_getElem_cons hlt]
    obtain ⟨e1, h1, o, e2, h2, ho, hi'⟩ := s i _ hd e h
    refine loop_c ⟨e1, h1, o, e2, h2, ?_⟩
    have r := loop_at I n (i + 1) (by omega) (by omega) hi' s k
    rcases ho with rfl | rfl
    · exact r
    · exact r
/-! comprehensions -/
def RC (vs : List Nat) (gt : FG) (ft : FT) (fe : FX) (ds acc : List D) (e : ES) (QL : List D → ES → Prop) : Prop := ∃ xs e', compLoop vs gt ft fe ds acc e = some (xs, e') ∧ QL xs e'
theorem rl_comp {vs : List Nat} {gt : FG} {ft : FT} {fe : FX} (k : RL fl e fun ds e1 => RC vs gt ft fe ds [] (wipeE vs e1) fun xs e2 => QL xs (restoreE vs e1 e2)) : RL (xComp vs fl gt ft fe) e QL := by
  obtain ⟨r1, e1, h1, o, e2, h2, k⟩ := k
  exact ⟨_, _, by unfold xComp; rw [h1]; dsimp only; rw [h2], k⟩
theorem rc_n {vs : List Nat} {gt : FG} {ft : FT} {fe : FX} {acc : List D} (k : QL acc e) : RC vs gt ft fe [] acc e QL := ⟨_, _, rfl, k⟩
theorem rc_c {vs : List Nat} {gt : FG} {ft : FT} {fe : FX} {d : D} {ds acc : List D} (k : RG gt d e fun e1 => RT ft e1 fun k0 e2 => IFB k0 (RX fe e2 fun r e3 => FZ r e3 fun y e4 => acc.length < 16000000 ∧ RC vs gt ft fe ds (acc ++ [y]) (wipeE vs e4) QL) (RC vs gt ft fe ds acc (wipeE vs e2) QL)) : RC vs gt ft fe (d :: ds) acc e QL := by
  obtain ⟨e1, h1, k0, e2, h2, k1, k2⟩ := k
  cases k0
  · obtain ⟨xs, e3, h3, k⟩ := k2 rfl
    exact ⟨_, _, by unfold compLoop; rw [h1]; dsimp only; rw [h2]; dsimp only; rw [h3], k⟩
  · obtain ⟨r, e3, h3, y, e4, h4, h5, xs, e5, h6, k⟩ := k1 rfl
    exact ⟨_, _, by unfold compLoop; rw [h1]; dsimp only; rw [h2]; dsimp only; rw [h3]; dsimp only; rw [h4]; dsimp only; rw [if_pos h5, h6], k⟩
end
/-- a comprehension with an invariant -/
theorem rc_at {vs : List Nat} {gt : FG} {ft : FT} {fe : FX} {QL : List D → ES → Prop} (I : Nat → List D → ES → Prop) {ds : List D} : ∀ (n i : Nat) {acc : List D} {e : ES}, n = ds.length - i → i ≤ ds.length → I i acc e →
    (∀ i d, ds[i]? = some d → ∀ acc e, I i acc e → RG gt d e fun e1 => RT ft e1 fun k0 e2 => IFB k0 (RX fe e2 fun r e3 => FZ r e3 fun y e4 => acc.length < 16000000 ∧ I (i + 1) (acc ++ [y]) (wipeE vs e4)) (I (i + 1) acc (wipeE vs e2))) →
    (∀ acc e, I ds.length acc e → QL acc e) → RC vs gt ft fe (ds.drop i) acc e QL
  | 0, i, acc, e, hn, hi, h, s, k => by
    have : i = ds.length := by omega
    subst this
    rw [List.drop_length]
    exact rc_n (k acc e h)
  | n + 1, i, acc, e, hn, hi, h, s, k => by
    have hlt : i < ds.length := by omega
    have hd : ds[i]? = some ds[i] := by simp [hlt]
    rw [List.drop_eq_getElem_cons hlt]
    obtain ⟨e1, h1, k0, e2, h2, k1, k2⟩ := s i _ hd acc e h
    refine rc_c ⟨e1, h1, k0, e2, h2, fun z => ?_, fun z => ?_⟩
    · obtain ⟨r, e3, h3, y, e4, h4, h5, h6⟩ := k1 z
      exact ⟨r, e3, h3, y, e4, h4, h5, rc_at I n (i + 1) (by omega) (by omega) h6 s k⟩
    · exact rc_at I n (i + 1) (by omega) (by omega) (k2 z) s k
theorem rc_go {vs : List Nat} {gt : FG} {ft : FT} {fe : FX} {QL : List D → ES → Prop} (I : Nat → List D → ES → Prop) {ds : List D} {e : ES} (h : I 0 [] e)
    (s : ∀ i d, ds[i]? = some d → ∀ acc e, I i acc e → RG gt d e fun e1 => RT ft e1 fun k0 e2 => IFB k0 (RX fe e2 fun r e3 => FZ r e3 fun y e4 => acc.length < 16000000 ∧ I (i + 1) (acc ++ [y]) (wipeE vs e4)) (I (i + 1) acc (wipeE vs e2)))
    (k : ∀ acc e, I ds.length acc e → QL acc e) : RC vs gt ft fe ds [] e QL := by
  have := rc_at (vs := vs) (gt := gt) (ft := ft) (fe := fe) (QL := QL) I (ds := ds) (ds.length - 0) 0 rfl (Nat.zero_le _) h s k
  exact this
theorem loop_go {f : FS} {QS : Out → ES → Prop} {gt : FG} (I : Nat → ES → Prop) {ds : List D} {e : ES} (h : I 0 e) (s : ∀ i d, ds[i]? = some d → ∀ e, I i e → RG gt d e fun e1 => RS f e1 fun o e2 => (o = .nx ∨ o = .ct) ∧ I (i + 1) e2) (k : ∀ e, I ds.length e → QS .nx e) : RLoop gt f ds e QS := by
  have := loop_at (f := f) (QS := QS) (gt := gt) I (ds := ds) (ds.length - 0) 0 rfl (Nat.zero_le _) h s k
  exact this
theorem rangeD_get {n i : Nat} {d : D} (h : (rangeD 0 n)[i]? = some d) : i < n ∧ d = .int (i : Nat) := by
  unfold rangeD at h
  rw [List.getElem?_map] at h
  obtain ⟨j, h1, rfl⟩ := Option.map_eq_some_iff.mp h
  have h2 : i < n := by
    have := (List.getElem?_eq_some_iff.mp h1).1
    simpa using this
  rw [List.getElem?_range h2] at h1
  cases h1
  exact ⟨h2, by rw [Int.zero_add]⟩
theorem rangeD_len {lo : Int} {n : Nat} : (rangeD lo n).length = n := by simp [rangeD]
/-- data of bounded depth, lists not too long -/
def okD : Nat → D → Prop
  | 0, _ => False
  | n + 1, .list xs => xs.length ≤ 1000000 ∧ ∀ x ∈ xs, okD n x
  | n + 1, .tuple xs => xs.length ≤ 1000000 ∧ ∀ x ∈ xs, okD n x
  | _ + 1, .dict _ => False
  | _ + 1, _ => True
theorem all_n {α : Type} {K : α → Prop} : ∀ d ∈ ([] : List α), K d := fun _ h => nomatch h
theorem all_c {α : Type} {K : α → Prop} {x : α} {xs : List α} (h : K x) (h2 : ∀ d ∈ xs, K d) : ∀ d ∈ x :: xs, K d := fun d m => by
  rcases List.mem_cons.mp m with rfl | m
  · exact h
  · exact h2 d m
theorem and_okR {i : Int} {B : Prop} (h : -4611686018427387904 ≤ i) (h2 : i < 4611686018427387904) (k : B) : okR i = true ∧ B := ⟨by unfold okR; rw [decide_eq_true_eq]; exact ⟨h, h2⟩, k⟩
theorem and_okR2 {i j : Int} {B : Prop} (h : -4611686018427387904 ≤ i) (h2 : i < 4611686018427387904) (h3 : -4611686018427387904 ≤ j) (h4 : j < 4611686018427387904) (k : B) : (okR i && okR j) = true ∧ B := ⟨by unfold okR; rw [Bool.and_eq_true, decide_eq_true_eq, decide_eq_true_eq]; exact ⟨⟨h, h2⟩, h3, h4⟩, k⟩
theorem and_isD {rs : List Rv} {d : D} {B : Prop} (h : (rs.all Rv.isD || scal d) = true) (k : B) : (rs.all Rv.isD || scal d) = true ∧ B := ⟨h, k⟩
theorem and_isD2 {rs : List Rv} {B : Prop} (h : rs.all Rv.isD = true) (k : B) : rs.all Rv.isD = true ∧ B := ⟨h, k⟩
theorem and_len {ds : List D} {n : Nat} {B : Prop} (h : Nat.ble ds.length n = true) (k : B) : ds.length ≤ n ∧ B := ⟨Nat.le_of_ble_eq_true h, k⟩
theorem and_ltn {ds : List D} {n : Nat} {B : Prop} (h : Nat.ble (ds.length + 1) n = true) (k : B) : ds.length < n ∧ B := ⟨Nat.le_of_ble_eq_true h, k⟩
/-! ### defs -/
theorem callP_of {g : FS} {n m : Nat} {ds : List D} {d : D} (hl : ds.length = m) (k : RS g (startE n ds none) fun o e => outD e o = some d) : callP g n m ds = some d := by
  obtain ⟨o, e, h, k⟩ := k
  unfold callP; rw [if_pos hl, h]; exact k
theorem callL_of {g : FS} {n m : Nat} {ds : List D} {d : List D} (hl : ds.length = m) (k : RS g (startE n ds none) fun o e => outL e o = some d) : callL g n m ds = some d := by
  obtain ⟨o, e, h, k⟩ := k
  unfold callL; rw [if_pos hl, h]; exact k
theorem callT_of {g : FS} {n m : Nat} {ds : List D} {τ : Tp} (P : D → Tp → Prop) (hl : ds.length + 1 = m) (k : RS g (startT n ds τ) fun o e => ∃ d τ', outD e o = some d ∧ e.tp = some τ' ∧ P d τ') : ∃ d τ', callT g n m τ ds = some (d, τ') ∧ P d τ' := by
  obtain ⟨o, e, h, d, τ', k1, k2, k3⟩ := k
  refine ⟨d, τ', ?_, k3⟩
  unfold callT; rw [if_pos hl, h]; dsimp only; rw [k1, k2]
/-! ### operations -/
section
variable {i j : Int} {K : D → Prop} {KL : List D → Prop} {p q : D} {b c : Bool} {s z : Str}
theorem o_add (k : K (.int (i + j))) : O2 gAdd (.int i) (.int j) K := ⟨_, rfl, k⟩
theorem o_sub (k : K (.int (i - j))) : O2 gSub (.int i) (.int j) K := ⟨_, rfl, k⟩
theorem o_mul (h : (smallI i || smallI j) = true) (k : K (.int (i * j))) : O2 gMul (.int i) (.int j) K := ⟨_, by unfold gMul; dsimp only; rw [if_pos h], k⟩
theorem o_mul1 (h1 : -18446744073709551616 < i) (h2 : i < 18446744073709551616) (k : K (.int (i * j))) : O2 gMul (.int i) (.int j) K := o_mul (by unfold smallI; rw [decide_eq_true ⟨h1, h2⟩]; rfl) k
theorem o_mul2 (h1 : -18446744073709551616 < j) (h2 : j < 18446744073709551616) (k : K (.int (i * j))) : O2 gMul (.int i) (.int j) K := o_mul (by unfold smallI; rw [decide_eq_true (p := -18446744073709551616 < j ∧ j < 18446744073709551616) ⟨h1, h2⟩, Bool.or_true]) k
theorem o_fdiv (h : 0 < j) (h2 : j < 18446744073709551616) (k : K (.int (i / j))) : O2 gFdiv (.int i) (.int j) K := ⟨_, by unfold gFdiv; dsimp only; rw [if_pos ⟨h, h2⟩], k⟩
theorem o_mod (h : 0 < j) (k : K (.int (i % j))) : O2 gMod (.int i) (.int j) K := ⟨_, by unfold gMod; dsimp only; rw [if_pos h], k⟩
theorem o_pow (h : 0 ≤ j ∧ j ≤ 1000 ∧ i.natAbs < 1000000) (k : K (.int (i ^ j.toNat))) : O2 gPow (.int i) (.int j) K := ⟨_, by unfold gPow; dsimp only; rw [if_pos h], k⟩
theorem o_neg (k : K (.int (-i))) : O1 gNeg (.int i) K := ⟨_, rfl, k⟩
theorem o_lt (k : K (.bool (decide (i < j)))) : O2 gLt (.int i) (.int j) K := ⟨_, rfl, by rw [PySem.W.dataLt_int]; exact k⟩
theorem o_gt (k : K (.bool (decide (i > j)))) : O2 gGt (.int i) (.int j) K := ⟨_, rfl, by rw [PySem.W.dataLt_int]; exact k⟩
theorem ndec {P R : Prop} [Decidable P] [Decidable R] (h : ¬ P ↔ R) : (!decide P) = decide R := by
  by_cases p : P
  · rw [decide_eq_true p, decide_eq_false (fun r => h.mpr r p)]; rfl
  · rw [decide_eq_false p, decide_eq_true (h.mp p)]; rfl
theorem o_le (k : K (.bool (decide (i ≤ j)))) : O2 gLe (.int i) (.int j) K := ⟨_, rfl, by rw [PySem.W.dataLt_int, ndec (R := i ≤ j) (by omega)]; exact k⟩
theorem o_ge (k : K (.bool (decide (i ≥ j)))) : O2 gGe (.int i) (.int j) K := ⟨_, rfl, by rw [PySem.W.dataLt_int, ndec (R := i ≥ j) (by omega)]; exact k⟩
theorem o_eq (k : K (.bool (decide (i = j)))) : O2 gEq (.int i) (.int j) K := ⟨_, rfl, k⟩
theorem o_ne (k : K (.bool (!decide (i = j)))) : O2 gNe (.int i) (.int j) K := ⟨_, rfl, k⟩
theorem o_eqS (k : K (.bool (s == z))) : O2 gEq (.str s) (.str z) K := ⟨_, rfl, by
  have : PyData.eqv (.str s) (.str z) = (s == z) := by rw [PyData.eqv]
  rw [this]; exact k⟩
theorem o_neS (k : K (.bool (!(s == z)))) : O2 gNe (.str s) (.str z) K := ⟨_, rfl, by
  have : PyData.eqv (.str s) (.str z) = (s == z) := by rw [PyData.eqv]
  rw [this]; exact k⟩
theorem o_eqD (h : (shal p && shal q) = true) (k : K (.bool (PyData.eqv p q))) : O2 gEq p q K := ⟨_, by unfold gEq; rw [if_pos h], k⟩
theorem o_neD (h : (shal p && shal q) = true) (k : K (.bool (!PyData.eqv p q))) : O2 gNe p q K := ⟨_, by unfold gNe; rw [if_pos h], k⟩
theorem o_eqNN (k : K (.bool true)) : O2 gEq .none .none K := ⟨_, rfl, k⟩
theorem o_eqNI (k : K (.bool false)) : O2 gEq .none (.int j) K := ⟨_, rfl, k⟩
theorem o_eqIN (k : K (.bool false)) : O2 gEq (.int i) .none K := ⟨_, rfl, k⟩
theorem o_neNN (k : K (.bool false)) : O2 gNe .none .none K := ⟨_, rfl, k⟩
theorem o_neNI (k : K (.bool true)) : O2 gNe .none (.int j) K := ⟨_, rfl, k⟩
theorem o_neIN (k : K (.bool true)) : O2 gNe (.int i) .none K := ⟨_, rfl, k⟩
theorem o_eqB (k : K (.bool (decide (b = c)))) : O2 gEq (.bool b) (.bool c) K := ⟨_, rfl, by
  have : PyData.eqv (.bool b) (.bool c) = decide (b = c) := by cases b <;> cases c <;> rfl
  rw [this]; exact k⟩
theorem o_neB (k : K (.bool (!decide (b = c)))) : O2 gNe (.bool b) (.bool c) K := ⟨_, rfl, by
  have : PyData.eqv (.bool b) (.bool c) = decide (b = c) := by cases b <;> cases c <;> rfl
  rw [this]; exact k⟩
theorem o_eq_refl (h : shal p = true) (k : K (.bool true)) : O2 gEq p p K := o_eqD (by rw [h]; rfl) (by
  have : PyData.eqv p p = true := PySem.SeqAt.eqv_refl_plain p (by unfold shal at h; rw [Bool.and_eq_true] at h; exact h.1)
  rw [this]; exact k)
theorem o_is (k : K (.bool (isNoneD p))) : O2 gIs p .none K := by
  cases p <;> exact ⟨_, rfl, k⟩
theorem o_isn (k : K (.bool (!isNoneD p))) : O2 gIsNot p .none K := by
  cases p <;> exact ⟨_, rfl, k⟩
theorem o_isb (k : K (.bool (decide (b = c)))) : O2 gIs (.bool b) (.bool c) K := ⟨_, rfl, k⟩
theorem o_not (k : K (.bool (!b))) : O1 gNot (.bool b) K := ⟨_, rfl, k⟩
theorem o_ixT {xs : List D} {d : D} (h : atI xs i = some d) (k : K d) : O2 gIx (.tuple xs) (.int i) K := ⟨_, h, k⟩
theorem o_ixL {xs : List D} {d : D} (h : atI xs i = some d) (k : K d) : O2 gIx (.list xs) (.int i) K := ⟨_, h, k⟩
theorem atI_mem {α : Type} {xs : List α} (h : 0 ≤ i) (h2 : i < xs.length) : ∃ d ∈ xs, atI xs i = some d := by
  have h3 : i.toNat < xs.length := by omega
  refine ⟨xs[i.toNat], List.getElem_mem h3, ?_⟩
  unfold atI ixN
  rw [if_pos h, if_pos h2]
  show xs[i.toNat]? = _
  rw [List.getElem?_eq_getElem h3]
theorem o_ixLa {xs : List D} (h : 0 ≤ i) (h2 : i < xs.length) (k : ∀ d ∈ xs, K d) : O2 gIx (.list xs) (.int i) K := by
  obtain ⟨d, h3, h4⟩ := atI_mem h h2
  exact ⟨d, h4, k d h3⟩
theorem o_ixTa {xs : List D} (h : 0 ≤ i) (h2 : i < xs.length) (k : ∀ d ∈ xs, K d) : O2 gIx (.tuple xs) (.int i) K := by
  obtain ⟨d, h3, h4⟩ := atI_mem h h2
  exact ⟨d, h4, k d h3⟩
theorem o_slT {xs : List D} {lo hi : Option Int} (k : K (.tuple (cutD xs lo hi))) : O1 (fun d => gSl d lo hi) (.tuple xs) K := ⟨_, rfl, k⟩
theorem o_slS {lo hi : Option Int} (h : z.length ≤ 16000000) (k : K (.str (cutS z lo hi))) : O1 (fun d => gSl d lo hi) (.str z) K := ⟨_, by dsimp only [gSl]; rw [if_pos h], k⟩
theorem o_addL {xs ys : List D} (h : xs.length + ys.length ≤ 16000000) (k : KL (xs ++ ys)) : O2L gAddL (.list xs) (.list ys) KL := ⟨_, by unfold gAddL; dsimp only; rw [if_pos h], k⟩
theorem o_addT {xs ys : List D} (h : xs.length + ys.length ≤ 16000000) (k : K (.tuple (xs ++ ys))) : O2 gAdd (.tuple xs) (.tuple ys) K := ⟨_, by unfold gAdd; dsimp only; rw [if_pos h], k⟩
theorem o_addS (h : s.length + z.length ≤ 16000000) (k : K (.str (s ++ z))) : O2 gAdd (.str s) (.str z) K := ⟨_, by unfold gAdd; dsimp only; rw [if_pos h], k⟩
theorem o_repL {xs : List D} (h : i < 1000000 ∧ -1000000 < i ∧ xs.length * i.toNat ≤ 16000000) (k : KL (List.replicate i.toNat xs).flatten) : O2L gRepL (.list xs) (.int i) KL := ⟨_, by unfold gRepL; dsimp only; rw [if_pos h], k⟩
theorem c_lenL {xs : List D} (k : K (.int xs.length)) : C1 gLen [.list xs] K := ⟨_, rfl, k⟩
theorem c_lenT {xs : List D} (k : K (.int xs.length)) : C1 gLen [.tuple xs] K := ⟨_, rfl, k⟩
theorem c_lenS (h : z.length ≤ 16000000) (k : K (.int z.length)) : C1 gLen [.str z] K := ⟨_, by unfold gLen; dsimp only; rw [if_pos h], k⟩
theorem c_tupL {xs : List D} (k : K (.tuple xs)) : C1 gTuple [.list xs] K := ⟨_, rfl, k⟩
theorem c_tupT {xs : List D} (k : K (.tuple xs)) : C1 gTuple [.tuple xs] K := ⟨_, rfl, k⟩
theorem c_listL {xs : List D} (k : KL xs) : CL gListL [.list xs] KL := ⟨_, rfl, k⟩
theorem c_listT {xs : List D} (k : KL xs) : CL gListL [.tuple xs] KL := ⟨_, rfl, k⟩
theorem c_intB (k : K (.int (if b then 1 else 0))) : C1 gInt [.bool b] K := ⟨_, rfl, k⟩
theorem c_intS (k : IFB b (K (.int 1)) (K (.int 0))) : C1 gInt [.bool b] K := c_intB (by
  cases b
  · exact k.2 rfl
  · exact k.1 rfl)
theorem c_intI (k : K (.int i)) : C1 gInt [.int i] K := ⟨_, rfl, k⟩
theorem c_max2 (k : K (.int (if j > i then j else i))) : C1 gMax [.int i, .int j] K := ⟨_, rfl, k⟩
theorem c_min2 (k : K (.int (if j < i then j else i))) : C1 gMin [.int i, .int j] K := ⟨_, rfl, k⟩
end
theorem atI_mod {xs : List Int} {i : Int} (h : 0 < xs.length) : ∃ x : Int, atI (xs.map PyData.int) (i % (xs.length : Int)) = some (.int x) := by
  have h1 : 0 ≤ i % (xs.length : Int) := Int.emod_nonneg _ (by omega)
  have h2 : i % (xs.length : Int) < xs.length := Int.emod_lt_of_pos _ (by omega)
  have h3 : (i % (xs.length : Int)).toNat < xs.length := by omega
  refine ⟨xs[(i % (xs.length : Int)).toNat], ?_⟩
  unfold atI ixN
  rw [if_pos h1, List.length_map, if_pos h2]
  show (xs.map PyData.int)[_]? = _
  rw [List.getElem?_map, List.getElem?_eq_getElem h3]
  rfl
/-! doors: which kind of step the goal is -/
section
variable {e : ES} {i j : Int} {A B : Prop} {b : Bool}
theorem dRX {f : FX} {Q : Rv → ES → Prop} (h : RX f e Q) : RX f e Q := h
theorem dRT {f : FT} {Q : Bool → ES → Prop} (h : RT f e Q) : RT f e Q := h
theorem dRA {f : FA} {Q : List Rv → ES → Prop} (h : RA f e Q) : RA f e Q := h
theorem dRL {f : FL} {Q : List D → ES → Prop} (h : RL f e Q) : RL f e Q := h
theorem dRS {f : FS} {Q : Out → ES → Prop} (h : RS f e Q) : RS f e Q := h
theorem dNX {g : FS} {o : Out} {Q : Out → ES → Prop} (h : NX g Q o e) : NX g Q o e := h
theorem dLX {gt : FG} {f : FS} {ds : List D} {o : Out} {Q : Out → ES → Prop} (h : LX gt f ds Q o e) : LX gt f ds Q o e := h
theorem dRD {r : Rv} {K : D → Prop} (h : RD e r K) : RD e r K := h
theorem dRDs {r : List Rv} {K : List D → Prop} (h : RDs e r K) : RDs e r K := h
theorem dFZ {r : Rv} {K : D → ES → Prop} (h : FZ r e K) : FZ r e K := h
theorem dFZs {r : List Rv} {K : List D → ES → Prop} (h : FZs r e K) : FZs r e K := h
theorem dO2 {g : D → D → Option D} {a c : D} {K : D → Prop} (h : O2 g a c K) : O2 g a c K := h
theorem dO1 {g : D → Option D} {a : D} {K : D → Prop} (h : O1 g a K) : O1 g a K := h
theorem dC1 {g : List D → Option D} {a : List D} {K : D → Prop} (h : C1 g a K) : C1 g a K := h
theorem dIF (h : IFB b A B) : IFB b A B := h
theorem dEx {α : Type} {P : α → Prop} (h : ∃ x, P x) : ∃ x, P x := h
theorem dAnd (h : A ∧ B) : A ∧ B := h
end
/-! ### the document's commands and versions -/
inductive C7 where
  | major | minor | patch | premajor | preminor | prepatch | prerelease
deriving DecidableEq
def C7.s : C7 → Str
  | .major => "major"
  | .minor => "minor"
  | .patch => "patch"
  | .premajor => "premajor"
  | .preminor => "preminor"
  | .prepatch => "prepatch"
  | .prerelease => "prerelease"
def C7.part : C7 → Nat
  | .major => 0
  | .minor => 1
  | .patch => 2
  | .premajor => 0
  | .preminor => 1
  | .prepatch => 2
  | .prerelease => 2
def C7.pre : C7 → Bool
  | .major => false
  | .minor => false
  | .patch => false
  | _ => true
structure Ver where
  a : Int
  b : Int
  c : Int
  p : Option Int
deriving DecidableEq
abbrev Ver.D (v : Ver) : D := vD v.a v.b v.c v.p
def Ver.zero (v : Ver) : Nat → Bool
  | 0 => decide (v.b = 0) && decide (v.c = 0)
  | 1 => decide (v.c = 0)
  | _ => true
def Ver.raise (v : Ver) (p : Option Int) : Nat → Ver
  | 0 => ⟨v.a + 1, 0, 0, p⟩
  | 1 => ⟨v.a, v.b + 1, 0, p⟩
  | _ => ⟨v.a, v.b, v.c + 1, p⟩
def stepV (v : Ver) (cm : C7) : Ver := match cm, v.p with
  | .prerelease, some k => { v with p := some (k + 1) }
  | cm, p => let q : Option Int := if cm.pre = true then some 0 else none
    if cm.pre = true ∨ p = none ∨ v.zero cm.part = false then v.raise q cm.part else { v with p := q }
def runV (v : Ver) (s : List C7) : Ver := s.foldl stepV v
/-- numbers that are none below 0 -/
def Ver.ok (v : Ver) : Prop := 0 ≤ v.a ∧ 0 ≤ v.b ∧ 0 ≤ v.c ∧ ∀ k, v.p = some k → 0 ≤ k
theorem stepV_ok {v : Ver} (h : v.ok) (cm : C7) : (stepV v cm).ok := by
  obtain ⟨a, b, c, p⟩ := v
  obtain ⟨h1, h2, h3, h4⟩ := h
  dsimp only at h1 h2 h3 h4
  have hr : ∀ (q : Option Int) (i : Nat), (∀ k, q = some k → 0 ≤ k) → (Ver.raise ⟨a, b, c, p⟩ q i).ok := fun q i hq => by
    match i with
    | 0 => exact ⟨by show 0 ≤ a + 1; omega, Int.le_refl 0, Int.le_refl 0, hq⟩
    | 1 => exact ⟨h1, by show 0 ≤ b + 1; omega, Int.le_refl 0, hq⟩
    | _ + 2 => exact ⟨h1, h2, by show 0 ≤ c + 1; omega, hq⟩
  have hq : ∀ k, (if cm.pre = true then some (0 : Int) else none) = some k → 0 ≤ k := fun k hk => by
    split at hk
    · cases hk; exact Int.le_refl 0
    · cases hk
  unfold stepV
  split
  · rename_i k hk
    refine ⟨h1, h2, h3, fun j hj => ?_⟩
    cases hj
    have := h4 k hk
    omega
  · dsimp only
    split
    · exact hr _ _ hq
    · exact ⟨h1, h2, h3, hq⟩
theorem runV_ok {v : Ver} (h : v.ok) : ∀ s : List C7, (runV v s).ok
  | [] => h
  | cm :: s => runV_ok (v := stepV v cm) (stepV_ok h cm) s
/-- numbers as the law draws them -/
def Ver.bd (v : Ver) : Prop := (0 ≤ v.a ∧ v.a < 1000) ∧ (0 ≤ v.b ∧ v.b < 1000) ∧ (0 ≤ v.c ∧ v.c < 1000) ∧ pok v.p
theorem Ver.bd.ok {v : Ver} (h : v.bd) : v.ok := ⟨h.1.1, h.2.1.1, h.2.2.1.1, fun k hk => (h.2.2.2 k hk).1⟩
def scD (s : List C7) : List D := s.map fun cm => .str cm.s
theorem c_maxT3 {a b c : Int} {K : D → Prop} (k : K (.int (max (max a b) c))) : C1 gMax [.tuple [.int a, .int b, .int c]] K := ⟨_, rfl, k⟩
def insideV (v : Ver) : Bool := decide (max (max v.a v.b) v.c < 1000) && (match v.p with
  | none => true
  | some k => decide (k < 1000))
theorem inside_bd {v : Ver} (h : v.ok) (i : insideV v = true) : v.bd := by
  unfold insideV at i
  rw [Bool.and_eq_true, decide_eq_true_eq] at i
  obtain ⟨h1, h2, h3, h4⟩ := h
  refine ⟨⟨h1, by omega⟩, ⟨h2, by omega⟩, ⟨h3, by omega⟩, fun k hk => ⟨h4 k hk, ?_⟩⟩
  have := i.2
  rw [hk] at this
  exact of_decide_eq_true this
theorem lexT {x y : D} {xs ys : List D} (h : PySem.W.alike x y = true) : PySem.W.dataLt (.tuple (x :: xs)) (.tuple (y :: ys)) = if PyData.eqv x y = true then PySem.W.dataLt (.tuple xs) (.tuple ys) else PySem.W.dataLt x y := by
  rw [PySem.W.dataLt_tuple]
  by_cases e : PyData.eqv x y = true
  · rw [if_pos e, PySem.W.dataLt_all_yes h e, PySem.W.dataLt_tuple]
  · rw [if_neg e, PySem.W.dataLt_all_no h (by simpa using e)]
def cmpV (v w : Ver) : Int :=
  if v.a ≠ w.a then (if v.a < w.a then -1 else 1) else if v.b ≠ w.b then (if v.b < w.b then -1 else 1) else if v.c ≠ w.c then (if v.c < w.c then -1 else 1) else
  match v.p, w.p with
  | none, none => 0
  | none, some _ => 1
  | some _, none => -1
  | some k, some j => if k = j then 0 else if k < j then -1 else 1
/-! ### comparing versions -/
def rankD (v : Ver) : D := .tuple [.int v.a, .int v.b, .int v.c, .bool v.p.isNone, .int (v.p.getD 0)]
theorem eqvB (a b : Bool) : PyData.eqv (.bool a) (.bool b) = (a == b) := by rw [PyData.eqv]
theorem eqvI (a b : Int) : PyData.eqv (.int a) (.int b) = (a == b) := by rw [PyData.eqv]
theorem eqvT (x y : D) (xs ys : List D) : PyData.eqvAll (x :: xs) (y :: ys) = (PyData.eqv x y && PyData.eqvAll xs ys) := by rw [PyData.eqvAll]
theorem eqvTup (xs ys : List D) : PyData.eqv (.tuple xs) (.tuple ys) = PyData.eqvAll xs ys := by rw [PyData.eqv]
theorem dataLt_tnil : PySem.W.dataLt (.tuple []) (.tuple []) = false := by decide +kernel
theorem lt_if (a b : Int) (h : a ≠ b) : decide (a < b) = decide ((if a < b then (-1 : Int) else 1) = -1) := by
  by_cases q : a < b
  · rw [if_pos q, decide_eq_true q]; rfl
  · rw [if_neg q, decide_eq_false q]; rfl
theorem rank_lt (v w : Ver) : PySem.W.dataLt (rankD v) (rankD w) = decide (cmpV v w = -1) := by
  obtain ⟨a, b, c, p⟩ := v
  obtain ⟨a', b', c', p'⟩ := w
  unfold rankD cmpV
  rw [lexT rfl, eqvI, lexT rfl, eqvI, lexT rfl, eqvI, lexT rfl, eqvB, lexT rfl, eqvI, dataLt_tnil, PySem.W.dataLt_int, PySem.W.dataLt_int, PySem.W.dataLt_int, PySem.W.dataLt_int, PySem.W.dataLt_bool]
  simp only [beq_iff_eq, ne_eq, ite_not]
  by_cases ha : a = a'
  · rw [if_pos ha, if_pos ha]
    by_cases hb : b = b'
    · rw [if_pos hb, if_pos hb]
      by_cases hc : c = c'
      · rw [if_pos hc, if_pos hc]
        cases p with
        | none => cases p' with
          | none => rfl
          | some j => rfl
        | some k => cases p' with
          | none => rfl
          | some j =>
            dsimp only [Option.isNone, Option.getD]
            rw [if_pos rfl]
            by_cases hk : k = j
            · rw [if_pos hk]; subst hk; simp
            · rw [if_neg hk]; simp only [if_neg hk]; exact lt_if k j hk
      · rw [if_neg hc, if_neg hc]; exact lt_if c c' hc
    · rw [if_neg hb, if_neg hb]; exact lt_if b b' hb
  · rw [if_neg ha, if_neg ha]; exact lt_if a a' ha
theorem eqv_pd (p q : Option Int) : PyData.eqv (pd p) (pd q) = decide (p = q) := by
  cases p <;> cases q <;> simp [pd, PyData.eqv]
  rw [Bool.eq_iff_iff]
  simp
theorem eqv_ver (v w : Ver) : PyData.eqv v.D w.D = decide (v = w) := by
  obtain ⟨a, b, c, p⟩ := v
  obtain ⟨a', b', c', p'⟩ := w
  rw [eqvTup, eqvT, eqvT, eqvT, eqvT, eqvI, eqvI, eqvI, eqv_pd]
  have e : PyData.eqvAll ([] : List D) [] = true := by rw [PyData.eqvAll]
  rw [e, Bool.eq_iff_iff]
  simp [and_assoc]
theorem cmp_eq (v : Ver) : cmpV v v = 0 := by
  unfold cmpV
  rw [if_neg (by simp), if_neg (by simp), if_neg (by simp)]
  cases v.p <;> simp
theorem cmp_ne {v w : Ver} (h : v ≠ w) : cmpV v w = -1 ∨ cmpV v w = 1 := by
  obtain ⟨a, b, c, p⟩ := v
  obtain ⟨a', b', c', p'⟩ := w
  unfold cmpV
  simp only [ne_eq, ite_not]
  by_cases ha : a = a'
  · by_cases hb : b = b'
    · by_cases hc : c = c'
      · rw [if_pos ha, if_pos hb, if_pos hc]
        cases p with
        | none => cases p' with
          | none => subst ha hb hc; exact absurd rfl h
          | some j => exact .inr rfl
        | some k => cases p' with
          | none => exact .inl rfl
          | some j =>
            dsimp only
            by_cases hk : k = j
            · subst ha hb hc hk; exact absurd rfl h
            · rw [if_neg hk]; split <;> simp
      · rw [if_pos ha, if_pos hb, if_neg hc]; split <;> simp
    · rw [if_pos ha, if_neg hb]; split <;> simp
  · rw [if_neg ha]; split <;> simp
def LX1 (x y r : Int) : Int := if x = y then r else if x < y then -1 else 1
theorem lx_neg (x y r : Int) : LX1 y x (-r) = -LX1 x y r := by
  unfold LX1
  by_cases h : x = y
  · rw [if_pos h, if_pos h.symm]
  · rw [if_neg h, if_neg (fun e => h e.symm)]
    by_cases q : x < y
    · rw [if_pos q, if_neg (by omega)]; rfl
    · rw [if_neg q, if_pos (by omega)]
theorem lx_trans {x y z r1 r2 r3 : Int} (h1 : LX1 x y r1 ≤ 0) (h2 : LX1 y z r2 ≤ 0) (hr : r1 ≤ 0 → r2 ≤ 0 → r3 ≤ 0) : LX1 x z r3 ≤ 0 := by
  unfold LX1 at *
  by_cases a : x = y
  · rw [if_pos a] at h1
    by_cases b : y = z
    · rw [if_pos b] at h2
      rw [if_pos (a.trans b)]
      exact hr h1 h2
    · rw [if_neg b] at h2
      rw [if_neg (fun e => b (a.symm.trans e)), a]
      exact h2
  · rw [if_neg a] at h1
    by_cases b : y = z
    · rw [if_neg (fun e => a (e.trans b.symm)), ← b]
      exact h1
    · rw [if_neg b] at h2
      split at h1
      · split at h2
        · rw [if_neg (by omega), if_pos (by omega)]; omega
        · omega
      · omega
def pf : Option Int → Int
  | none => 1
  | some _ => 0
theorem cmp_lx (v w : Ver) : cmpV v w = LX1 v.a w.a (LX1 v.b w.b (LX1 v.c w.c (LX1 (pf v.p) (pf w.p) (LX1 (v.p.getD 0) (w.p.getD 0) 0)))) := by
  obtain ⟨a, b, c, p⟩ := v
  obtain ⟨a', b', c', p'⟩ := w
  unfold cmpV LX1
  simp only [ne_eq, ite_not]
  cases p <;> cases p' <;> rfl
theorem cmp_neg (v w : Ver) : cmpV w v = -cmpV v w := by
  rw [cmp_lx, cmp_lx, ← lx_neg, ← lx_neg, ← lx_neg, ← lx_neg, ← lx_neg]; rfl
theorem cmp_trans (u v w : Ver) (h1 : cmpV u v ≤ 0) (h2 : cmpV v w ≤ 0) : cmpV u w ≤ 0 := by
  rw [cmp_lx] at *
  exact lx_trans h1 h2 fun h1 h2 => lx_trans h1 h2 fun h1 h2 => lx_trans h1 h2 fun h1 h2 => lx_trans h1 h2 fun h1 h2 => lx_trans h1 h2 fun _ _ => Int.le_refl 0
/-! ### distances -/
def raisesV (v w : Ver) : Int × Int × Int := if w.a = v.a then (if w.b = v.b then (0, 0, w.c - v.c) else (0, w.b - v.b, w.c)) else (w.a - v.a, w.b, w.c)
def dueV (v : Ver) (x y : Int) : Bool := match v.p with
  | none => false
  | some _ => if x > 0 then decide (v.b = 0) && decide (v.c = 0) else if y > 0 then decide (v.c = 0) else true
def sameN (v w : Ver) : Prop := v.a = w.a ∧ v.b = w.b ∧ v.c = w.c
instance (v w : Ver) : Decidable (sameN v w) := by unfold sameN; infer_instance
def fewV (v w : Ver) : Option Int :=
  if cmpV w v < 0 then none else if v = w then some 0 else
  if sameN v w then (match w.p with
    | none => some 1
    | some k => some (k - v.p.getD 0)) else
  let r := raisesV v w
  match w.p with
  | some k => some (r.1 + r.2.1 + r.2.2 + k)
  | none => some (r.1 + r.2.1 + r.2.2 + b2i (dueV v r.1 r.2.1))
theorem r3 : rangeD 0 (Int.toNat 3) = [.int 0, .int 1, .int 2] := rfl
theorem r4 : rangeD 0 (Int.toNat 4) = [.int 0, .int 1, .int 2, .int 3] := rfl
theorem r5 : rangeD 0 (Int.toNat 5) = [.int 0, .int 1, .int 2, .int 3, .int 4] := rfl
def keyD (v : Ver) : D := .tuple [.int v.a, .int v.b, .int v.c, .int (match v.p with
  | none => 1000000000
  | some k => k)]
theorem key_lt {v w : Ver} (hv : v.bd) (hw : w.bd) : PySem.W.dataLt (keyD v) (keyD w) = decide (cmpV v w = -1) := by
  obtain ⟨a, b, c, p⟩ := v
  obtain ⟨a', b', c', p'⟩ := w
  have h1 := hv.2.2.2
  have h2 := hw.2.2.2
  unfold keyD cmpV
  rw [lexT rfl, eqvI, lexT rfl, eqvI, lexT rfl, eqvI, lexT rfl, eqvI, dataLt_tnil, PySem.W.dataLt_int, PySem.W.dataLt_int, PySem.W.dataLt_int, PySem.W.dataLt_int]
  simp only [beq_iff_eq, ne_eq, ite_not]
  by_cases ha : a = a'
  · rw [if_pos ha, if_pos ha]
    by_cases hb : b = b'
    · rw [if_pos hb, if_pos hb]
      by_cases hc : c = c'
      · rw [if_pos hc, if_pos hc]
        cases p with
        | none => cases p' with
          | none => rfl
          | some j =>
            have := h2 j rfl
            dsimp only
            rw [if_neg (by omega), decide_eq_false (by omega)]; rfl
        | some k => cases p' with
          | none =>
            have := h1 k rfl
            dsimp only
            rw [if_neg (by omega), decide_eq_true (by omega)]; rfl
          | some j =>
            dsimp only
            by_cases hk : k = j
            · rw [if_pos hk]; subst hk; simp
            · rw [if_neg hk]; simp only [if_neg hk]; exact lt_if k j hk
      · rw [if_neg hc, if_neg hc]; exact lt_if c c' hc
    · rw [if_neg hb, if_neg hb]; exact lt_if b b' hb
  · rw [if_neg ha, if_neg ha]; exact lt_if a a' ha
theorem cmp_cases (v w : Ver) : cmpV v w = -1 ∨ cmpV v w = 0 ∨ cmpV v w = 1 := by
  by_cases h : v = w
  · subst h; exact .inr (.inl (cmp_eq v))
  · rcases cmp_ne h with h | h
    · exact .inl h
    · exact .inr (.inr h)
/-- the raises of a higher version are none below 0 -/
theorem raises_nn {v w : Ver} (hw : w.ok) (h : ¬ cmpV w v < 0) : 0 ≤ (raisesV v w).1 ∧ 0 ≤ (raisesV v w).2.1 ∧ 0 ≤ (raisesV v w).2.2 := by
  obtain ⟨a, b, c, p⟩ := v
  obtain ⟨a', b', c', p'⟩ := w
  obtain ⟨h1, h2, h3, _⟩ := hw
  dsimp only at h1 h2 h3
  unfold cmpV at h
  unfold raisesV
  simp only [ne_eq, ite_not] at h ⊢
  by_cases ha : a' = a
  · rw [if_pos ha] at h ⊢
    by_cases hb : b' = b
    · rw [if_pos hb] at h ⊢
      by_cases hc : c' = c
      · dsimp only; omega
      · rw [if_neg hc] at h
        split at h <;> (dsimp only; omega)
    · rw [if_neg hb] at h ⊢
      split at h <;> (dsimp only; omega)
  · rw [if_neg ha] at h ⊢
    split at h <;> (dsimp only; omega)
/-! starred items, while -/
def SQD (d : D) (K : List D → Prop) : Prop := ∃ ds, seqD d = some ds ∧ K ds
theorem sqd_l {xs : List D} {K : List D → Prop} (k : K xs) : SQD (.list xs) K := ⟨xs, rfl, k⟩
theorem sqd_t {xs : List D} {K : List D → Prop} (k : K xs) : SQD (.tuple xs) K := ⟨xs, rfl, k⟩
theorem ra_star {a : FX} {fa : FA} {e : ES} {QA : List Rv → ES → Prop} (k : RX a e fun r e1 => RD e1 r fun d => SQD d fun ds => RA fa e1 fun rs e2 => QA (ds.map Rv.d ++ rs) e2) : RA (aStar a fa) e QA := by
  obtain ⟨r, e1, h1, d, h2, ds, h3, rs, e2, h4, k⟩ := k
  exact ⟨_, _, by unfold aStar; rw [h1]; dsimp only; rw [h2]; dsimp only; rw [h3]; dsimp only; rw [h4], k⟩
theorem fzs_m {ds : List D} {rs : List Rv} {e : ES} {K : List D → ES → Prop} (k : FZs rs e fun ds2 e2 => K (ds ++ ds2) e2) : FZs (ds.map Rv.d ++ rs) e K := by
  induction ds generalizing K with
  | nil => exact k
  | cons d ds ih => exact fzs_c (fz_d (ih k))
theorem rds_m {ds : List D} {rs : List Rv} {e : ES} {K : List D → Prop} (k : RDs e rs fun ds2 => K (ds ++ ds2)) : RDs e (ds.map Rv.d ++ rs) K := by
  induction ds generalizing K with
  | nil => exact k
  | cons d ds ih => exact rds_c (rd_d (ih k))
def WX (t : FT) (body : FS) (QS : Out → ES → Prop) : Out → ES → Prop
  | .nx, e => RS (gWhile t body) e QS
  | .ct, e => RS (gWhile t body) e QS
  | .bk, e => QS .nx e
  | .rt r, e => QS (.rt r) e
  | .rtL r, e => QS (.rtL r) e
/-- one turn of a while -/
theorem rs_while {t : FT} {body : FS} {e : ES} {QS : Out → ES → Prop} (k : RT t e fun k0 e1 => IFB k0 (RS body e1 (WX t body QS)) (QS .nx e1)) : RS (gWhile t body) e QS := by
  obtain ⟨k0, e1, h1, k1, k2⟩ := k
  cases k0 with
  | false => exact ⟨_, _, gWhile_of (n := 1) (by unfold loopW; rw [h1]), k2 rfl⟩
  | true =>
    obtain ⟨o, e2, h2, k⟩ := k1 rfl
    have go : ∀ {o3 : Out} {e3 : ES} {n : Nat}, loopW t body n e2 = some (o3, e3) → (o = .nx ∨ o = .ct) → gWhile t body e = some (o3, e3) := fun {o3 e3 n} h ho => by
      refine gWhile_of (n := n + 1) ?_
      unfold loopW; rw [h1]; dsimp only; rw [h2]
      rcases ho with rfl | rfl <;> exact h
    have leave : ∀ {o3 : Out}, (match o with | .bk => some (Out.nx, e2) | .rt r => some (.rt r, e2) | .rtL r => some (.rtL r, e2) | _ => none) = some (o3, e2) → gWhile t body e = some (o3, e2) := fun {o3} h => by
      refine gWhile_of (n := 1) ?_
      unfold loopW; rw [h1]; dsimp only; rw [h2]
      cases o <;> first | (cases h; rfl) | cases h
    cases o with
    | nx =>
      obtain ⟨o3, e3, h3, k⟩ := k
      obtain ⟨n, hn⟩ := gWhile_inv h3
      exact ⟨_, _, go hn (.inl rfl), k⟩
    | ct =>
      obtain ⟨o3, e3, h3, k⟩ := k
      obtain ⟨n, hn⟩ := gWhile_inv h3
      exact ⟨_, _, go hn (.inr rfl), k⟩
    | bk => exact ⟨_, _, leave rfl, k⟩
    | rt r => exact ⟨_, _, leave rfl, k⟩
    | rtL r => exact ⟨_, _, leave rfl, k⟩
theorem wx_nx {t : FT} {body : FS} {QS : Out → ES → Prop} {e : ES} (k : RS (gWhile t body) e QS) : WX t body QS .nx e := k
theorem wx_bk {t : FT} {body : FS} {QS : Out → ES → Prop} {e : ES} (k : QS .nx e) : WX t body QS .bk e := k
theorem wx_rt {t : FT} {body : FS} {QS : Out → ES → Prop} {e : ES} {r : Rv} (k : QS (.rt r) e) : WX t body QS (.rt r) e := k
/-! ### the number of shortest scripts -/
def mn (d x : Int) : Int := if x < d then x else d
def arN (a b c x y z d : Int) : Int × Int × Int :=
  let h0 := mn d x
  let n0 : Int × Int × Int := if h0 > 0 then (a + h0, 0, 0) else (a, b, c)
  let h1 := mn (d - h0) y
  let n1 : Int × Int × Int := if h1 > 0 then (n0.1, n0.2.1 + h1, 0) else n0
  let h2 := mn (d - h0 - h1) z
  if h2 > 0 then (n1.1, n1.2.1, n1.2.2 + h2) else n1
def npN (x y z d : Int) : Int := if d < x then 0 else if d < x + y then 1 else if d < x + y + z then 2 else 3
def drZ (b c : Int) : Int := 1 + (if c = 0 then 1 else 0) + (if b = 0 ∧ c = 0 then 1 else 0)
end DD
namespace DD
open PySem PySem.Spec PyProof.Rows L2
theorem rs_match {a : FX} {m : FMt} {e : ES} {Q : Out → ES → Prop} (k : RX a e fun r e1 => ∃ z, r = .d (.str z) ∧ RS (m z) e1 Q) : RS (gMatch a m) e Q := by
  obtain ⟨r, e1, h1, z, rfl, o, e2, h2, k⟩ := k
  exact ⟨o, e2, by unfold gMatch; rw [h1]; exact h2, k⟩
theorem rs_mstr {w z : Str} {b : FS} {r : FMt} {e : ES} {Q : Out → ES → Prop} (k : IFB (z == w) (RS b e Q) (RS (r z) e Q)) : RS (mStr w b r z) e Q := by
  unfold mStr
  by_cases h : (z == w) = true
  · rw [if_pos h]; exact k.1 h
  · rw [if_neg h]; exact k.2 (by simpa using h)
theorem rs_many {z : Str} {b : FS} {e : ES} {Q : Out → ES → Prop} (k : RS b e Q) : RS (mAny b z) e Q := k
theorem rs_app {a : FX} {e : ES} {QS : Out → ES → Prop} {i : Nat} {xs0 : List D} (h0 : e.sl[i]? = some (.own xs0)) (k : RX a e fun r e1 => FZ r e1 fun d e2 => ∃ xs, e2.sl[i]? = some (.own xs) ∧ xs.length < 16000000 ∧ QS .nx (e2.set i (.own (xs ++ [d])))) : RS (gApp i a) e QS := by
  obtain ⟨r, e1, h1, d, e2, h2, xs, h3, h4, k⟩ := k
  exact ⟨_, _, by unfold gApp; rw [h0]; dsimp only; rw [h1]; dsimp only; rw [h2]; dsimp only; rw [h3]; dsimp only; rw [if_pos h4], k⟩
theorem cut_take {xs : List D} {i : Int} (h : 0 ≤ i) : cutD xs none (some i) = xs.take i.toNat := by
  unfold DD.cutD HT.sIx
  dsimp only
  rw [if_neg (by omega), List.drop_zero, Nat.sub_zero]
  by_cases q : i.toNat ≤ xs.length
  · rw [Nat.min_eq_left q]
  · rw [Nat.min_eq_right (by omega), List.take_length, List.take_of_length_le (by omega)]
theorem cut_drop {xs : List D} {i : Int} (h : 0 ≤ i) : cutD xs (some i) none = xs.drop i.toNat := by
  unfold DD.cutD HT.sIx
  dsimp only
  rw [if_neg (by omega)]
  by_cases q : i.toNat ≤ xs.length
  · rw [Nat.min_eq_left q]
    exact List.take_of_length_le (by rw [List.length_drop]; omega)
  · rw [Nat.min_eq_right (by omega), Nat.sub_self, List.drop_length, List.drop_eq_nil_of_le (by omega)]; rfl
theorem sc_take (s : List C7) (n : Nat) : (scD s).take n = scD (s.take n) := by unfold scD; rw [List.map_take]
theorem sc_drop (s : List C7) (n : Nat) : (scD s).drop n = scD (s.drop n) := by unfold scD; rw [List.map_drop]
theorem sc_app (s t : List C7) : scD s ++ scD t = scD (s ++ t) := by simp [scD]
theorem sc_len (s : List C7) : (scD s).length = s.length := by simp [scD]
/-- the commands of a list for which P holds -/
theorem rc_filter {vs : List Nat} {gt : FG} {ft : FT} {fe : FX} {QL : List D → ES → Prop} (P : C7 → Bool) (e0 : ES)
    (st : ∀ cm : C7, RG gt (.str cm.s) e0 fun e1 => RT ft e1 fun k0 e2 => k0 = P cm ∧ (P cm = true → RX fe e2 fun r e3 => FZ r e3 fun y e4 => y = .str cm.s ∧ wipeE vs e4 = e0) ∧ (P cm = false → wipeE vs e2 = e0)) :
    ∀ (cs : List C7) (acc : List C7), acc.length + cs.length < 16000000 → QL (scD (acc ++ cs.filter P)) e0 → RC vs gt ft fe (scD cs) (scD acc) e0 QL
  | [], acc, _, k => rc_n (by rw [List.filter_nil, List.append_nil] at k; exact k)
  | cm :: cs, acc, hl, k => by
    obtain ⟨e1, h1, k0, e2, h2, rfl, h3, h4⟩ := st cm
    rw [List.length_cons] at hl
    refine rc_c ⟨e1, h1, P cm, e2, h2, fun hp => ?_, fun hp => ?_⟩
    · obtain ⟨r, e3, h5, y, e4, h6, rfl, h7⟩ := h3 hp
      refine ⟨r, e3, h5, _, e4, h6, by rw [sc_len]; omega, ?_⟩
      rw [h7]
      have := rc_filter P e0 st cs (acc ++ [cm]) (by rw [List.length_append, List.length_singleton]; omega) (QL := QL) (by
        rw [List.filter_cons_of_pos hp] at k
        rw [List.append_assoc]; exact k)
      rw [← sc_app] at this
      exact this
    · rw [h4 hp]
      exact rc_filter P e0 st cs acc (by omega) (by rw [List.filter_cons_of_neg (by rw [hp]; decide)] at k; exact k)
def all7 : List C7 := [.major, .minor, .patch, .premajor, .preminor, .prepatch, .prerelease]
theorem eqvVer (v w : Ver) : (shal v.D && shal w.D) = true := by
  cases v with | mk a b c p => cases w with | mk a' b' c' p' => cases p <;> cases p' <;> rfl
theorem o_eqV {v w : Ver} {K : D → Prop} (k : K (.bool (decide (v = w)))) : O2 gEq v.D w.D K := o_eqD (eqvVer v w) (by rw [eqv_ver]; exact k)
theorem o_neV {v w : Ver} {K : D → Prop} (k : K (.bool (!decide (v = w)))) : O2 gNe v.D w.D K := o_neD (eqvVer v w) (by rw [eqv_ver]; exact k)
def PAR3 (ds : List D) (K : D → D → D → Prop) : Prop := ∃ d1 d2 d3, ds = [d1, d2, d3] ∧ K d1 d2 d3
theorem par3 {d1 d2 d3 : D} {K : D → D → D → Prop} (k : K d1 d2 d3) : PAR3 [d1, d2, d3] K := ⟨d1, d2, d3, rfl, k⟩
theorem rs_par3 {fa : FA} {e : ES} {QS : Out → ES → Prop} {i j l : Nat} (k : RA fa e fun rs e1 => FZs rs e1 fun ds e2 => PAR3 ds fun d1 d2 d3 => QS .nx (((e2.set i (.d d1)).set j (.d d2)).set l (.d d3))) : RS (gPar3 i j l fa) e QS := by
  obtain ⟨r1, e1, h1, ds, e2, h2, d1, d2, d3, rfl, k⟩ := k
  exact ⟨_, _, by unfold gPar3; rw [h1]; dsimp only; rw [h2], k⟩
/-! comprehensions of several clauses -/
def RCN (body : FC) (acc : List D) (e : ES) (Q : List D → ES → Prop) : Prop := ∃ xs e', body acc e = some (xs, e') ∧ Q xs e'
section
variable {vs : List Nat} {gt : FG} {ft : FT} {fe a : FX} {fl : FL} {body : FC} {acc : List D} {e : ES} {Q : List D → ES → Prop}
theorem rl_compN (k : RL fl e fun ds e1 => RCN (cLoop vs gt ft body ds) [] (wipeE vs e1) fun xs e2 => Q xs (restoreE vs e1 e2)) : RL (xCompN vs fl gt ft body) e Q := by
  obtain ⟨r1, e1, h1, o, e2, h2, k⟩ := k
  exact ⟨_, _, by unfold xCompN; rw [h1]; dsimp only; rw [h2], k⟩
theorem rcn_n (k : Q acc e) : RCN (cLoop vs gt ft body []) acc e Q := ⟨_, _, rfl, k⟩
theorem rcn_c {d : D} {ds : List D} (k : RG gt d e fun e1 => RT ft e1 fun k0 e2 => IFB k0 (RCN body acc e2 fun acc' e3 => RCN (cLoop vs gt ft body ds) acc' (wipeE vs e3) Q) (RCN (cLoop vs gt ft body ds) acc (wipeE vs e2) Q)) : RCN (cLoop vs gt ft body (d :: ds)) acc e Q := by
  obtain ⟨e1, h1, k0, e2, h2, k1, k2⟩ := k
  cases k0
  · obtain ⟨xs, e3, h3, k⟩ := k2 rfl
    exact ⟨_, _, by unfold cLoop; rw [h1]; dsimp only; rw [h2]; dsimp only; rw [h3], k⟩
  · obtain ⟨acc', e3, h3, xs, e4, h4, k⟩ := k1 rfl
    exact ⟨_, _, by unfold cLoop; rw [h1]; dsimp only; rw [h2]; dsimp only; rw [h3]; dsimp only; rw [h4], k⟩
theorem rcn_for (k : RL fl e fun ds e1 => RCN (cLoop vs gt ft body ds) acc (wipeE vs e1) Q) : RCN (cFor vs fl gt ft body) acc e Q := by
  obtain ⟨r1, e1, h1, o, e2, h2, k⟩ := k
  exact ⟨_, _, by unfold cFor; rw [h1]; dsimp only; rw [h2], k⟩
theorem rcn_emit (k : RX fe e fun r e1 => FZ r e1 fun y e2 => acc.length < 16000000 ∧ Q (acc ++ [y]) e2) : RCN (cEmit fe) acc e Q := by
  obtain ⟨r1, e1, h1, y, e2, h2, h3, k⟩ := k
  exact ⟨_, _, by unfold cEmit; rw [h1]; dsimp only; rw [h2]; dsimp only; rw [if_pos h3], k⟩
theorem rx_repl {y z : Str} {QX : Rv → ES → Prop} (k : RX a e fun r e1 => ∃ x, r = .d (.str x) ∧ replOk x z = true ∧ QX (.d (.str (Txt.replace x y z))) e1) : RX (xRepl y z a) e QX := by
  obtain ⟨r1, e1, h1, x, rfl, h2, k⟩ := k
  exact ⟨_, _, by unfold xRepl; rw [h1]; dsimp only; rw [if_pos h2], k⟩
theorem rs_parO {i j : Nat} {QS : Out → ES → Prop} (k : RX a e fun r e1 => RL fl e1 fun xs e2 => FZ r e2 fun d e3 => QS .nx ((e3.set i (.d d)).set j (.own xs))) : RS (gParO i j a fl) e QS := by
  obtain ⟨r1, e1, h1, xs, e2, h2, d, e3, h3, k⟩ := k
  exact ⟨_, _, by unfold gParO; rw [h1]; dsimp only; rw [h2]; dsimp only; rw [h3], k⟩
theorem rs_ist {i : Nat} {ix : FX} {QS : Out → ES → Prop} (k : RX a e fun r e1 => FZ r e1 fun d e2 => ∃ ys, e2.sl[i]? = some (.own ys) ∧ RX ix e2 fun r' e3 => ∃ n xs j, r' = .d (.int n) ∧ e3.sl[i]? = some (.own xs) ∧ ixN xs.length n = some j ∧ QS .nx (e3.set i (.own (xs.set j d)))) : RS (gIst i ix a) e QS := by
  obtain ⟨r1, e1, h1, d, e2, h2, ys, h3, r', e3, h4, n, xs, j, rfl, h5, h6, k⟩ := k
  exact ⟨_, _, by unfold gIst; rw [h1]; dsimp only; rw [h2]; dsimp only; rw [h3]; dsimp only; rw [h4]; dsimp only; rw [h5]; dsimp only; rw [h6], k⟩
theorem rs_popAt {i : Nat} {ix : FX} {ys : List D} {QS : Out → ES → Prop} (h0 : e.sl[i]? = some (.own ys)) (k : RX ix e fun r' e3 => ∃ n xs, r' = .d (.int n) ∧ e3.sl[i]? = some (.own xs) ∧ (0 ≤ n ∧ n < xs.length ∧ n < 4611686018427387904) ∧ QS .nx (e3.set i (.own (xs.eraseIdx n.toNat)))) : RS (gPopAt i ix) e QS := by
  obtain ⟨r', e3, h4, n, xs, rfl, h5, h6, k⟩ := k
  exact ⟨_, _, by unfold gPopAt; rw [h0]; dsimp only; rw [h4]; dsimp only; rw [h5]; dsimp only; rw [if_pos h6], k⟩
theorem rs_ins {i : Nat} {ix : FX} {ys : List D} {QS : Out → ES → Prop} (h0 : e.sl[i]? = some (.own ys)) (k : RX ix e fun r' e1 => RX a e1 fun r e2 => FZ r e2 fun d e3 => ∃ n xs, r' = .d (.int n) ∧ e3.sl[i]? = some (.own xs) ∧ (xs.length < 16000000 ∧ 0 ≤ n ∧ n < 4611686018427387904) ∧ QS .nx (e3.set i (.own (xs.take n.toNat ++ [d] ++ xs.drop n.toNat)))) : RS (gIns i ix a) e QS := by
  obtain ⟨r', e1, h1, r, e2, h2, d, e3, h3, n, xs, rfl, h5, h6, k⟩ := k
  exact ⟨_, _, by unfold gIns; rw [h0]; dsimp only; rw [h1]; dsimp only; rw [h2]; dsimp only; rw [h3]; dsimp only; rw [h5]; dsimp only; rw [if_pos h6], k⟩
theorem rl_rev (k : RX a e fun r e1 => RD e1 r fun d => ∃ xs, d = .list xs ∧ Q xs.reverse e1) : RL (xRevL a) e Q := by
  obtain ⟨r, e1, h1, d, h2, xs, rfl, k⟩ := k
  exact ⟨_, _, by unfold xRevL; rw [h1]; dsimp only; rw [h2], k⟩
theorem rx_join {z : Str} {QX : Rv → ES → Prop} (k : RX a e fun r e1 => RD e1 r fun d => ∃ ys, d = .list (ys.map PyData.str) ∧ (ys.map (·.length)).sum + ys.length * z.length ≤ 16777216 ∧ QX (.d (.str (Txt.join z ys))) e1) : RX (xJoin z a) e QX := by
  obtain ⟨r1, e1, h1, d, h2, ys, rfl, h3, k⟩ := k
  have h4 : strsD (ys.map PyData.str) = some ys := by
    clear h2 h3 k
    induction ys with
    | nil => rfl
    | cons y ys ih => show (strsD (ys.map PyData.str)).map (y :: ·) = _; rw [ih]; rfl
  exact ⟨_, _, by unfold xJoin; rw [h1]; dsimp only; rw [h2]; dsimp only; rw [h4]; dsimp only; rw [if_pos h3], k⟩
theorem rl_split {z : Str} (k : RX a e fun r e1 => RD e1 r fun d => ∃ s, d = .str s ∧ s.length ≤ 16000000 ∧ Q ((Txt.split s z).map PyData.str) e1) : RL (xSplit z a) e Q := by
  obtain ⟨r1, e1, h1, d, h2, s, rfl, h3, k⟩ := k
  exact ⟨_, _, by unfold xSplit; rw [h1]; dsimp only; rw [h2]; dsimp only; rw [if_pos h3], k⟩
theorem rx_f3 {w : Str} {b : FX} {QX : Rv → ES → Prop} (k : RX a e fun r1 e1 => RD e1 r1 fun d1 => ∃ y1, fmtD d1 = some y1 ∧ RX b e1 fun r2 e2 => RD e2 r2 fun d2 => ∃ y2, fmtD d2 = some y2 ∧ y1.length + w.length + y2.length ≤ 16000000 ∧ QX (.d (.str (Str.empty ++ y1 ++ w ++ y2))) e2) : RX (xF3 w a b) e QX := by
  obtain ⟨r1, e1, h1, d1, h2, y1, h3, r2, e2, h4, d2, h5, y2, h6, h7, k⟩ := k
  exact ⟨_, _, by unfold xF3; rw [h1]; dsimp only; rw [h2]; dsimp only; rw [h3]; dsimp only; rw [h4]; dsimp only; rw [h5]; dsimp only; rw [h6]; dsimp only; rw [if_pos h7], k⟩
theorem rx_revS {QX : Rv → ES → Prop} (k : RX a e fun r e1 => RD e1 r fun d => ∃ s, d = .str s ∧ s.length ≤ 16000000 ∧ QX (.d (.str (revS s))) e1) : RX (xRevS a) e QX := by
  obtain ⟨r1, e1, h1, d, h2, s, rfl, h3, k⟩ := k
  exact ⟨_, _, by unfold xRevS; rw [h1]; dsimp only; rw [h2]; dsimp only; rw [if_pos h3], k⟩
theorem rs_stF {i j : Nat} {QS : Out → ES → Prop} (k : RX a e fun r e1 => FZ r e1 fun d e2 => ∃ ds y, d = .tuple ds ∧ ds.getLast? = some y ∧ QS .nx ((e2.set i (.d (.list ds.dropLast))).set j (.d y))) : RS (gStF i j a) e QS := by
  obtain ⟨r1, e1, h1, d, e2, h2, ds, y, rfl, h3, k⟩ := k
  exact ⟨_, _, by unfold gStF; rw [h1]; dsimp only; rw [h2]; dsimp only; rw [h3], k⟩
theorem rs_stR {i j : Nat} {QS : Out → ES → Prop} (k : RX a e fun r e1 => FZ r e1 fun d e2 => ∃ d0 ds, d = .list (d0 :: ds) ∧ QS .nx ((e2.set i (.d d0)).set j (.d (.list ds)))) : RS (gStR i j a) e QS := by
  obtain ⟨r1, e1, h1, d, e2, h2, d0, ds, rfl, k⟩ := k
  exact ⟨_, _, by unfold gStR; rw [h1]; dsimp only; rw [h2], k⟩
theorem o_inS {c : Nat} {z : Str} {K : D → Prop} (k : K (.bool (decide (c ∈ z.cps.toList)))) : O2 gInS (.str ⟨#[c]⟩) (.str z) K := ⟨_, rfl, k⟩
theorem c_str {i : Int} {K : D → Prop} (h : i.natAbs < 18446744073709551616) (k : K (.str (toString i))) : C1 gStr [.int i] K := ⟨_, by unfold gStr; dsimp only; rw [if_pos h], k⟩
theorem c_intT {s : Str} {n : Int} {K : D → Prop} (h : s.length ≤ 640) (h2 : PySem.intText? s = some n) (k : K (.int n)) : C1 gIntS [.str s] K := ⟨_, by unfold gIntS; dsimp only; rw [if_pos h, h2]; rfl, k⟩
end
/-! ### dicts -/
section
variable {a b c : FX} {e : ES} {Q : Rv → ES → Prop} {QL : List D → ES → Prop} {QS : Out → ES → Prop}
theorem rx_vk {i : Nat} {kvs : List (D × D)} (h : e.sl[i]? = some (.dct kvs)) (k : Q (.own i) e) : RX (xVar i) e Q := ⟨_, _, by unfold xVar; rw [h], k⟩
theorem rd_k {i : Nat} {kvs : List (D × D)} {K : D → Prop} (h : e.sl[i]? = some (.dct kvs)) (k : K (.dict kvs)) : RD e (.own i) K := ⟨.dict kvs, by unfold rd; dsimp only; rw [h], k⟩
theorem fz_k {i : Nat} {kvs : List (D × D)} {K : D → ES → Prop} (h : e.sl[i]? = some (.dct kvs)) (k : K (.dict kvs) (e.set i (.d (.dict kvs)))) : FZ (.own i) e K := ⟨.dict kvs, _, by unfold fz; dsimp only; rw [h], k⟩
theorem rl_keys (k : RX a e fun r e1 => FZ r e1 fun d e2 => ∃ kvs, d = .dict kvs ∧ QL (kvs.map (·.1)) e2) : RL (iKeysD a) e QL := by
  obtain ⟨r1, e1, h1, d, e2, h2, kvs, rfl, k⟩ := k
  exact ⟨_, _, by unfold iKeysD; rw [h1]; dsimp only; rw [h2], k⟩
theorem rx_getN (k : RX a e fun r1 e1 => RD e1 r1 fun d0 => ∃ kvs0, d0 = .dict kvs0 ∧ RX b e1 fun r2 e2 => RX c e2 fun r3 e3 => RD e3 r1 fun d1 => RD e3 r2 fun d2 => RD e3 r3 fun d3 => ∃ kvs k0 z, d1 = .dict kvs ∧ keyOf d2 = some k0 ∧ d3 = .int z ∧ Q (.d ((lookK kvs k0).getD (.int z))) e3) : RX (xGetN a b c) e Q := by
  obtain ⟨r1, e1, h1, d0, h2, kvs0, rfl, r2, e2, h3, r3, e3, h4, d1, h5, d2, h6, d3, h7, kvs, k0, z, rfl, h8, rfl, k⟩ := k
  exact ⟨_, _, by unfold xGetN; rw [h1]; dsimp only; rw [h2]; dsimp only; rw [h3]; dsimp only; rw [h4]; dsimp only; rw [h5, h6, h7]; dsimp only; rw [h8], k⟩
theorem rs_setN {i : Nat} {ix : FX} (k : RX a e fun r e1 => FZ r e1 fun d e2 => ∃ kvs0, e2.sl[i]? = some (.dct kvs0) ∧ RX ix e2 fun r' e3 => ∃ kd k0 kvs, r' = .d kd ∧ keyOf kd = some k0 ∧ e3.sl[i]? = some (.dct kvs) ∧ kvs.length < 16000000 ∧ QS .nx (e3.set i (.dct (putKv kvs kd k0 d)))) : RS (gSetN i ix a) e QS := by
  obtain ⟨r, e1, h1, d, e2, h2, kvs0, h3, r', e3, h4, kd, k0, kvs, rfl, h5, h6, h7, k⟩ := k
  exact ⟨_, _, by unfold gSetN; rw [h1]; dsimp only; rw [h2]; dsimp only; rw [h3]; dsimp only; rw [h4]; dsimp only; rw [h6]; dsimp only; rw [h5]; dsimp only; rw [if_pos h7], k⟩
theorem rs_newN {i : Nat} (k : QS .nx (e.set i (.dct []))) : RS (gNewN i) e QS := ⟨_, _, rfl, k⟩
theorem rs_init {i j v : Nat} {c1 c2 kd : D} {k0 : VKey} (h : e.sl[v]? = some (.d kd)) (h2 : keyOf kd = some k0) (k : QS .nx ((e.set i (.dct [(kd, c1)])).set j (.own [.dict [(kd, c2)]]))) : RS (gInit i j v c1 c2) e QS := ⟨_, _, by unfold gInit; rw [h]; dsimp only; rw [h2], k⟩
theorem o_inN {kd : D} {kvs : List (D × D)} {k0 : VKey} {K : D → Prop} (h : keyOf kd = some k0) (k : K (.bool (lookK kvs k0).isSome)) : O2 gInN kd (.dict kvs) K := ⟨_, by unfold gInN; dsimp only; rw [h]; rfl, k⟩
theorem o_notInN {kd : D} {kvs : List (D × D)} {k0 : VKey} {K : D → Prop} (h : keyOf kd = some k0) (k : K (.bool (!(lookK kvs k0).isSome))) : O2 gNotInN kd (.dict kvs) K := ⟨_, by unfold gNotInN; dsimp only; rw [h]; rfl, k⟩
theorem o_ixN {kd d : D} {kvs : List (D × D)} {k0 : VKey} {K : D → Prop} (h : keyOf kd = some k0) (h2 : lookK kvs k0 = some d) (k : K d) : O2 gIxN (.dict kvs) kd K := ⟨_, by unfold gIxN; dsimp only; rw [h]; exact h2, k⟩
end
end DD

namespace DD
open PySem PySem.Spec PyProof.Rows L2
/-! dict comprehensions -/
def RK (body : FKv) (acc : List (D × D)) (e : ES) (Q : List (D × D) → ES → Prop) : Prop := ∃ xs e', body acc e = some (xs, e') ∧ Q xs e'
section
variable {vs : List Nat} {gt : FG} {ft : FT} {fk fv a : FX} {fl : FL} {body : FKv} {acc : List (D × D)} {e : ES} {Q : List (D × D) → ES → Prop}
theorem rx_kcomp {QX : Rv → ES → Prop} (k : RL fl e fun ds e1 => RK (kLoop vs gt ft body ds) [] (wipeE vs e1) fun xs e2 => QX (.d (.dict xs)) (restoreE vs e1 e2)) : RX (xKComp vs fl gt ft body) e QX := by
  obtain ⟨r1, e1, h1, o, e2, h2, k⟩ := k
  exact ⟨_, _, by unfold xKComp; rw [h1]; dsimp only; rw [h2], k⟩
theorem rk_n (k : Q acc e) : RK (kLoop vs gt ft body []) acc e Q := ⟨_, _, rfl, k⟩
theorem rk_c {d : D} {ds : List D} (k : RG gt d e fun e1 => RT ft e1 fun k0 e2 => IFB k0 (RK body acc e2 fun acc' e3 => RK (kLoop vs gt ft body ds) acc' (wipeE vs e3) Q) (RK (kLoop vs gt ft body ds) acc (wipeE vs e2) Q)) : RK (kLoop vs gt ft body (d :: ds)) acc e Q := by
  obtain ⟨e1, h1, k0, e2, h2, k1, k2⟩ := k
  cases k0
  · obtain ⟨xs, e3, h3, k⟩ := k2 rfl
    exact ⟨_, _, by unfold kLoop; rw [h1]; dsimp only; rw [h2]; dsimp only; rw [h3], k⟩
  · obtain ⟨acc', e3, h3, xs, e4, h4, k⟩ := k1 rfl
    exact ⟨_, _, by unfold kLoop; rw [h1]; dsimp only; rw [h2]; dsimp only; rw [h3]; dsimp only; rw [h4], k⟩
theorem rk_for (k : RL fl e fun ds e1 => RK (kLoop vs gt ft body ds) acc (wipeE vs e1) Q) : RK (kFor vs fl gt ft body) acc e Q := by
  obtain ⟨r1, e1, h1, o, e2, h2, k⟩ := k
  exact ⟨_, _, by unfold kFor; rw [h1]; dsimp only; rw [h2], k⟩
theorem rk_emit (k : RX fk e fun r e1 => ∃ kd k0, r = .d kd ∧ keyOf kd = some k0 ∧ RX fv e1 fun r2 e2 => FZ r2 e2 fun y e3 => acc.length < 16000000 ∧ Q (putKv acc kd k0 y) e3) : RK (kEmit fk fv) acc e Q := by
  obtain ⟨r1, e1, h1, kd, k0, rfl, h2, r2, e2, h3, y, e3, h4, h5, k⟩ := k
  exact ⟨_, _, by unfold kEmit; rw [h1]; dsimp only; rw [h2]; dsimp only; rw [h3]; dsimp only; rw [h4]; dsimp only; rw [if_pos h5], k⟩
end
/-! generators -/
def RY (f : FGn) (ds : List D) (e : ES) (Q : Out → List D → ES → Prop) : Prop := ∃ o ds' e', f ds e = some (o, ds', e') ∧ Q o ds' e'
section
variable {f g body : FGn} {gs : FS} {a : FX} {fl : FL} {gt : FG} {ds : List D} {e : ES} {Q : Out → List D → ES → Prop}
theorem ry_pl (k : RS gs e fun o e' => Q o ds e') : RY (yPl gs) ds e Q := by
  obtain ⟨o, e1, h1, k⟩ := k
  exact ⟨_, _, _, by unfold yPl; rw [h1], k⟩
theorem ry_seq (k : RY f ds e fun o ds1 e1 => o = .nx ∧ RY g ds1 e1 Q) : RY (ySeq f g) ds e Q := by
  obtain ⟨o, d1, e1, h1, rfl, o2, d2, e2, h2, k⟩ := k
  exact ⟨_, _, _, by unfold ySeq; rw [h1]; exact h2, k⟩
theorem ry_yield (k : RX a e fun r e1 => FZ r e1 fun d e2 => ds.length < 16000000 ∧ Q .nx (ds ++ [d]) e2) : RY (yYield a) ds e Q := by
  obtain ⟨r, e1, h1, d, e2, h2, h3, k⟩ := k
  exact ⟨_, _, _, by unfold yYield; rw [h1]; dsimp only; rw [h2]; dsimp only; rw [if_pos h3], k⟩
theorem ry_from (k : RX a e fun r e1 => FZ r e1 fun d e2 => ∃ xs, d = .list xs ∧ ds.length + xs.length < 16000000 ∧ Q .nx (ds ++ xs) e2) : RY (yFrom a) ds e Q := by
  obtain ⟨r, e1, h1, d, e2, h2, xs, rfl, h3, k⟩ := k
  exact ⟨_, _, _, by unfold yFrom; rw [h1]; dsimp only; rw [h2]; dsimp only; rw [if_pos h3], k⟩
theorem ry_for (k : RL fl e fun xs e1 => RY (loopY gt body xs) ds e1 Q) : RY (yFor fl gt body) ds e Q := by
  obtain ⟨xs, e1, h1, o, d2, e2, h2, k⟩ := k
  exact ⟨_, _, _, by unfold yFor; rw [h1]; exact h2, k⟩
theorem ry_n (k : Q .nx ds e) : RY (loopY gt body []) ds e Q := ⟨_, _, _, rfl, k⟩
theorem ry_c {d : D} {r : List D} (k : RG gt d e fun e1 => RY body ds e1 fun o ds2 e2 => o = .nx ∧ RY (loopY gt body r) ds2 e2 Q) : RY (loopY gt body (d :: r)) ds e Q := by
  obtain ⟨e1, h1, o, d2, e2, h2, rfl, o3, d3, e3, h3, k⟩ := k
  exact ⟨_, _, _, by unfold loopY; rw [h1]; dsimp only; rw [h2]; exact h3, k⟩
end
theorem callG_of {g : FGn} {n m : Nat} {ds out : List D} (hl : ds.length = m) (k : RY g [] (startE n ds none) fun o ys _ => o = .nx ∧ ys = out) : callG g n m ds = some out := by
  obtain ⟨o, ys, e, h, rfl, rfl⟩ := k
  unfold callG; rw [if_pos hl, h]
end DD

/-! the walk of k11, printed by gen.py -/
namespace Wk11
open DD PySem PySem.Spec PyProof.Rows L2
def top (i : Nat) : Stmt := PySem.Challenge.pw_versionbumps_k11_whole_versions_so_many.main.body.getD i (.Pass ⟨0, 0, 0, 0⟩)
abbrev st__law_draw : Stmt := top 15
abbrev st__law_number : Stmt := top 17
abbrev st__law_version : Stmt := top 18
abbrev st_is_due : Stmt := top 8
abbrev st_releases : Stmt := top 11
abbrev st_count_at : Stmt := top 12
abbrev st__law_commands : Stmt := top 19
abbrev st__law_step : Stmt := top 20
abbrev st__law_layers : Stmt := top 22
abbrev st__law_like : Stmt := top 16
abbrev st_raised : Stmt := top 2
abbrev st_raises : Stmt := top 7
abbrev st_rank : Stmt := top 4
abbrev st_compare : Stmt := top 5
abbrev st_fewest : Stmt := top 9
abbrev st_each_at : Stmt := top 13
abbrev st__law_key : Stmt := top 21
abbrev st_law : Stmt := top 23
abbrev FnPr (K : PySem.W.Frag) (x : Str) (st : Stmt) (f : Addr) (fd : FuncData) : Prop := FunD K x x (defArgs st) (defBody st) (defScope st) [] [] f fd
def c_COMMANDS : D := .tuple [.str "major", .str "minor", .str "patch", .str "premajor", .str "preminor", .str "prepatch", .str "prerelease"]
structure Facts (K : PySem.W.Frag) (mg : Str → Option Value) : Type where
  f__law_draw : Addr
  fd__law_draw : FuncData
  F__law_draw : FnPr K "_law_draw" st__law_draw f__law_draw fd__law_draw
  m__law_draw : mg "_law_draw" = some (.ref f__law_draw)
  b__law_draw : Binds K fd__law_draw ["tape", "many"] []
  f__law_number : Addr
  fd__law_number : FuncData
  F__law_number : FnPr K "_law_number" st__law_number f__law_number fd__law_number
  m__law_number : mg "_law_number" = some (.ref f__law_number)
  b__law_number : Binds K fd__law_number ["tape"] []
  f__law_version : Addr
  fd__law_version : FuncData
  F__law_version : FnPr K "_law_version" st__law_version f__law_version fd__law_version
  m__law_version : mg "_law_version" = some (.ref f__law_version)
  b__law_version : Binds K fd__law_version ["tape"] []
  f_is_due : Addr
  fd_is_due : FuncData
  F_is_due : FnPr K "is_due" st_is_due f_is_due fd_is_due
  m_is_due : mg "is_due" = some (.ref f_is_due)
  b_is_due : Binds K fd_is_due ["version", "counts"] []
  f_releases : Addr
  fd_releases : FuncData
  F_releases : FnPr K "releases" st_releases f_releases fd_releases
  m_releases : mg "releases" = some (.ref f_releases)
  b_releases : Binds K fd_releases ["version", "number"] []
  f_count_at : Addr
  fd_count_at : FuncData
  F_count_at : FnPr K "count_at" st_count_at f_count_at fd_count_at
  m_count_at : mg "count_at" = some (.ref f_count_at)
  b_count_at : Binds K fd_count_at ["version", "number"] []
  f__law_commands : Addr
  fd__law_commands : FuncData
  F__law_commands : FnPr K "_law_commands" st__law_commands f__law_commands fd__law_commands
  m__law_commands : mg "_law_commands" = some (.ref f__law_commands)
  b__law_commands : Binds K fd__law_commands [] []
  f__law_step : Addr
  fd__law_step : FuncData
  F__law_step : FnPr K "_law_step" st__law_step f__law_step fd__law_step
  m__law_step : mg "_law_step" = some (.ref f__law_step)
  b__law_step : Binds K fd__law_step ["version", "command"] []
  f__law_layers : Addr
  fd__law_layers : FuncData
  F__law_layers : FnPr K "_law_layers" st__law_layers f__law_layers fd__law_layers
  m__law_layers : mg "_law_layers" = some (.ref f__law_layers)
  b__law_layers : Binds K fd__law_layers ["version", "depth"] []
  f__law_like : Addr
  fd__law_like : FuncData
  F__law_like : FnPr K "_law_like" st__law_like f__law_like fd__law_like
  m__law_like : mg "_law_like" = some (.ref f__law_like)
  b__law_like : Binds K fd__law_like ["one", "two"] []
  f_raised : Addr
  fd_raised : FuncData
  F_raised : FnPr K "raised" st_raised f_raised fd_raised
  m_raised : mg "raised" = some (.ref f_raised)
  b_raised : Binds K fd_raised ["version", "command"] []
  f_raises : Addr
  fd_raises : FuncData
  F_raises : FnPr K "raises" st_raises f_raises fd_raises
  m_raises : mg "raises" = some (.ref f_raises)
  b_raises : Binds K fd_raises ["version", "target"] []
  f_rank : Addr
  fd_rank : FuncData
  F_rank : FnPr K "rank" st_rank f_rank fd_rank
  m_rank : mg "rank" = some (.ref f_rank)
  b_rank : Binds K fd_rank ["version"] []
  f_compare : Addr
  fd_compare : FuncData
  F_compare : FnPr K "compare" st_compare f_compare fd_compare
  m_compare : mg "compare" = some (.ref f_compare)
  b_compare : Binds K fd_compare ["one", "other"] []
  f_fewest : Addr
  fd_fewest : FuncData
  F_fewest : FnPr K "fewest" st_fewest f_fewest fd_fewest
  m_fewest : mg "fewest" = some (.ref f_fewest)
  b_fewest : Binds K fd_fewest ["version", "target"] []
  f_each_at : Addr
  fd_each_at : FuncData
  F_each_at : FnPr K "each_at" st_each_at f_each_at fd_each_at
  m_each_at : mg "each_at" = some (.ref f_each_at)
  b_each_at : Binds K fd_each_at ["version", "number"] []
  f__law_key : Addr
  fd__law_key : FuncData
  F__law_key : FnPr K "_law_key" st__law_key f__law_key fd__law_key
  m__law_key : mg "_law_key" = some (.ref f__law_key)
  b__law_key : Binds K fd__law_key ["version"] []
  f_law : Addr
  fd_law : FuncData
  F_law : FnPr K "law" st_law f_law fd_law
  m_law : mg "law" = some (.ref f_law)
  b_law : Binds K fd_law ["script"] []
  n_bool : mg "bool" = none
  n_enumerate : mg "enumerate" = none
  n_int : mg "int" = none
  n_isinstance : mg "isinstance" = none
  n_len : mg "len" = none
  n_list : mg "list" = none
  n_range : mg "range" = none
  n_sorted : mg "sorted" = none
  n_sum : mg "sum" = none
  n_tuple : mg "tuple" = none
  c_COMMANDS : GlobD K mg "COMMANDS" c_COMMANDS
section
variable {P : Program} {w : World} {K : PySem.W.Frag} {mg : Str → Option Value} {base : Heap}
theorem sc__law_draw : FnScope ["tape", "many", "prime", "cell", "found"] ["tape", "many"] (defScope st__law_draw) := ⟨rfl, rfl, rfl, by decide +kernel, rfl, by decide +kernel, by decide +kernel⟩
noncomputable def g__law_draw : FS :=
  gSeq (gSet 2 (xC (.int 2305843009213693951)))
  (gSeq (gIf (tOf (xBin gLt (xTp 0 2) (xVar 1)))
    (gSeq (gSet 3 (xC (.int 0)))
    (gSeq (gIf (tOf (xBin gGt (xCall gLen (aCons (xTp 0 0) (aNil))) (xC (.int 0))))
      (gSet 3 (xBin gIx (xTp 0 0) (xBin gMod (xTp 0 1) (xCall gLen (aCons (xTp 0 0) (aNil))))))
      (gNx))
    (gSeq (gIf (tOr (tOf (xBin gGe (xTp 0 1) (xCall gLen (aCons (xTp 0 0) (aNil))))) (tOf (xBin gLt (xVar 3) (xBin gPow (xC (.int 10)) (xC (.int 18))))))
      (gSeq (gSet 3 (xBin gMod (xBin gAdd (xVar 3) (xBin gMul (xC (.int 1000003)) (xTp 0 1))) (xVar 2)))
      (gSeq (gSet 3 (xBin gMod (xBin gAdd (xBin gAdd (xBin gMul (xVar 3) (xVar 3)) (xBin gMul (xC (.int 1181783497276652981)) (xVar 3))) (xC (.int 2049848353892358983))) (xVar 2)))
      (gSet 3 (xBin gMod (xBin gAdd (xBin gMul (xVar 3) (xVar 3)) (xC (.int 1442695040888963407))) (xVar 2)))))
      (gNx))
    (gSeq (gTp 0 1 (xBin gAdd (xTp 0 1) (xC (.int 1))))
    (gTp 0 2 (xVar 3))))))
    (gNx))
  (gSeq (gSet 4 (xBin gMod (xTp 0 2) (xVar 1)))
  (gSeq (gTp 0 2 (xBin gFdiv (xTp 0 2) (xVar 1)))
  (gRet (xVar 4)))))
noncomputable def f__law_draw : FTp := callT g__law_draw 5 2
theorem body__law_draw (Γ : Facts K mg) : BodyOk P w K mg base CX0 ["tape", "many", "prime", "cell", "found"] "_law_draw" (defScope st__law_draw) Γ.f__law_draw 0 (defBody st__law_draw) g__law_draw := fun cdv A outer s H E hr =>
  have hu : A.units + 3 + 64 < cLine := hr.units
  (db_cons (ds_set 2 sc__law_draw.nd de_int)
  (db_cons (ds_if (dt_cmp (op_ltP hu) (opd_bool gLt_bool) (de_tp 0 2) (de_var 1) (nomark _))
    (db_cons (ds_set 3 sc__law_draw.nd de_int)
    (db_cons (ds_if (dt_cmp (op_gtP hu) (opd_bool gGt_bool) (de_callB call_len calld_len Γ.n_len boot_len (da_cons (de_tp 0 0) da_nil)) de_int (nomark _))
      (db_one (ds_set 3 sc__law_draw.nd (de_ix (de_tp 0 0) (de_bin op_mod opd_mod (de_tp 0 1) (de_callB call_len calld_len Γ.n_len boot_len (da_cons (de_tp 0 0) da_nil))))))
      db_nil)
    (db_cons (ds_if (dt_w (dw_or (dt_cmp (op_geP hu) (opd_bool gGe_bool) (de_tp 0 1) (de_callB call_len calld_len Γ.n_len boot_len (da_cons (de_tp 0 0) da_nil)) (nomark _)) (dw_or1 (dt_cmp (op_ltP hu) (opd_bool gLt_bool) (de_var 3) (de_bin op_pow opd_pow de_int de_int) (nomark _)))))
      (db_cons (ds_set 3 sc__law_draw.nd (de_bin op_mod opd_mod (de_bin op_addP opd_add (de_var 3) (de_bin op_mul opd_mul de_int (de_tp 0 1))) (de_var 2)))
      (db_cons (ds_set 3 sc__law_draw.nd (de_bin op_mod opd_mod (de_bin op_addP opd_add (de_bin op_addP opd_add (de_bin op_mul opd_mul (de_var 3) (de_var 3)) (de_bin op_mul opd_mul de_int (de_var 3))) de_int) (de_var 2)))
      (db_one (ds_set 3 sc__law_draw.nd (de_bin op_mod opd_mod (de_bin op_addP opd_add (de_bin op_mul opd_mul (de_var 3) (de_var 3)) de_int) (de_var 2))))))
      db_nil)
    (db_cons (ds_tp 0 1 (de_bin op_addP opd_add (de_tp 0 1) de_int))
    (db_one (ds_tp 0 2 (de_var 3)))))))
    db_nil)
  (db_cons (ds_set 4 sc__law_draw.nd (de_bin op_mod opd_mod (de_tp 0 2) (de_var 1)))
  (db_cons (ds_tp 0 2 (de_bin op_fdivW opd_fdiv (de_tp 0 2) (de_var 1)))
  (db_one (ds_ret (de_var 4)))))))
theorem ok__law_draw (Γ : Facts K mg) : FnOk P w K mg base CX0 1 Γ.f__law_draw Γ.fd__law_draw ["tape", "many"] (spT K f__law_draw) := fn_T Γ.F__law_draw sc__law_draw rfl rfl (body__law_draw Γ)
theorem sc__law_number : FnScope ["tape"] ["tape"] (defScope st__law_number) := ⟨rfl, rfl, rfl, by decide +kernel, rfl, by decide +kernel, by decide +kernel⟩
noncomputable def g__law_number : FS :=
  gRet (xBin gIx (xL (xLst (aCons (xC (.int 0)) (aCons (xC (.int 0)) (aCons (xC (.int 1)) (aCons (xFnT f__law_draw (aCons (xVar 0) (aCons (xC (.int 4)) (aNil)))) (aCons (xFnT f__law_draw (aCons (xVar 0) (aCons (xC (.int 1000)) (aNil)))) (aNil)))))))) (xFnT f__law_draw (aCons (xVar 0) (aCons (xC (.int 5)) (aNil)))))
noncomputable def f__law_number : FTp := callT g__law_number 1 1
theorem body__law_number (Γ : Facts K mg) : BodyOk P w K mg base CX0 ["tape"] "_law_number" (defScope st__law_number) Γ.f__law_number 1 (defBody st__law_number) g__law_number := fun cdv A outer s H E hr =>
  have hu : A.units + 3 + 64 < cLine := hr.units
  (db_one (ds_ret (de_ix (de_of_dl (dl_lst (da_cons de_int (da_cons de_int (da_cons de_int (da_cons (de_fnT (ok__law_draw Γ) (hr.mono (by decide)) Γ.m__law_draw Γ.F__law_draw.kp Γ.b__law_draw pass0 (da_cons (de_var 0) (da_cons de_int da_nil))) (da_cons (de_fnT (ok__law_draw Γ) (hr.mono (by decide)) Γ.m__law_draw Γ.F__law_draw.kp Γ.b__law_draw pass0 (da_cons (de_var 0) (da_cons de_int da_nil))) da_nil))))))) (de_fnT (ok__law_draw Γ) (hr.mono (by decide)) Γ.m__law_draw Γ.F__law_draw.kp Γ.b__law_draw pass0 (da_cons (de_var 0) (da_cons de_int da_nil))))))
theorem ok__law_number (Γ : Facts K mg) : FnOk P w K mg base CX0 2 Γ.f__law_number Γ.fd__law_number ["tape"] (spT K f__law_number) := fn_T Γ.F__law_number sc__law_number rfl rfl (body__law_number Γ)
theorem sc__law_version : FnScope ["tape", "pre"] ["tape"] (defScope st__law_version) := ⟨rfl, rfl, rfl, by decide +kernel, rfl, by decide +kernel, by decide +kernel⟩
noncomputable def g__law_version : FS :=
  gSeq (gSet 1 (xBin gIx (xL (xLst (aCons (xC .none) (aCons (xC .none) (aCons (xC (.int 0)) (aCons (xFnT f__law_draw (aCons (xVar 0) (aCons (xC (.int 5)) (aNil)))) (aCons (xFnT f__law_draw (aCons (xVar 0) (aCons (xC (.int 1000)) (aNil)))) (aNil)))))))) (xFnT f__law_draw (aCons (xVar 0) (aCons (xC (.int 5)) (aNil))))))
  (gRet (xTup (aCons (xFnT f__law_number (aCons (xVar 0) (aNil))) (aCons (xFnT f__law_number (aCons (xVar 0) (aNil))) (aCons (xFnT f__law_number (aCons (xVar 0) (aNil))) (aCons (xVar 1) (aNil)))))))
noncomputable def f__law_version : FTp := callT g__law_version 2 1
theorem body__law_version (Γ : Facts K mg) : BodyOk P w K mg base CX0 ["tape", "pre"] "_law_version" (defScope st__law_version) Γ.f__law_version 2 (defBody st__law_version) g__law_version := fun cdv A outer s H E hr =>
  have hu : A.units + 3 + 64 < cLine := hr.units
  (db_cons (ds_set 1 sc__law_version.nd (de_ix (de_of_dl (dl_lst (da_cons de_non (da_cons de_non (da_cons de_int (da_cons (de_fnT (ok__law_draw Γ) (hr.mono (by decide)) Γ.m__law_draw Γ.F__law_draw.kp Γ.b__law_draw pass0 (da_cons (de_var 0) (da_cons de_int da_nil))) (da_cons (de_fnT (ok__law_draw Γ) (hr.mono (by decide)) Γ.m__law_draw Γ.F__law_draw.kp Γ.b__law_draw pass0 (da_cons (de_var 0) (da_cons de_int da_nil))) da_nil))))))) (de_fnT (ok__law_draw Γ) (hr.mono (by decide)) Γ.m__law_draw Γ.F__law_draw.kp Γ.b__law_draw pass0 (da_cons (de_var 0) (da_cons de_int da_nil)))))
  (db_one (ds_ret (de_tup (da_cons (de_fnT (ok__law_number Γ) (hr.mono (by decide)) Γ.m__law_number Γ.F__law_number.kp Γ.b__law_number pass0 (da_cons (de_var 0) da_nil)) (da_cons (de_fnT (ok__law_number Γ) (hr.mono (by decide)) Γ.m__law_number Γ.F__law_number.kp Γ.b__law_number pass0 (da_cons (de_var 0) da_nil)) (da_cons (de_fnT (ok__law_number Γ) (hr.mono (by decide)) Γ.m__law_number Γ.F__law_number.kp Γ.b__law_number pass0 (da_cons (de_var 0) da_nil)) (da_cons (de_var 1) da_nil))))))))
theorem ok__law_version (Γ : Facts K mg) : FnOk P w K mg base CX0 3 Γ.f__law_version Γ.fd__law_version ["tape"] (spT K f__law_version) := fn_T Γ.F__law_version sc__law_version rfl rfl (body__law_version Γ)
theorem sc_is_due : FnScope ["version", "counts"] ["version", "counts"] (defScope st_is_due) := ⟨rfl, rfl, rfl, by decide +kernel, rfl, by decide +kernel, by decide +kernel⟩
noncomputable def g_is_due : FS :=
  gSeq (gIf (tOf (xBin gIs (xBin gIx (xVar 0) (xC (.int 3))) (xC .none)))
    (gRet (xC (.bool false)))
    (gNx))
  (gSeq (gIf (tOf (xBin gGt (xBin gIx (xVar 1) (xC (.int 0))) (xC (.int 0))))
    (gRet (xAnd (xBin gEq (xBin gIx (xVar 0) (xC (.int 1))) (xC (.int 0))) (xBin gEq (xBin gIx (xVar 0) (xC (.int 2))) (xC (.int 0)))))
    (gNx))
  (gRet (xIf (tOf (xBin gGt (xBin gIx (xVar 1) (xC (.int 1))) (xC (.int 0)))) (xBin gEq (xBin gIx (xVar 0) (xC (.int 2))) (xC (.int 0))) (xC (.bool true)))))
noncomputable def f_is_due : FP := callP g_is_due 2 2
theorem body_is_due (Γ : Facts K mg) : BodyOk P w K mg base CX0 ["version", "counts"] "is_due" (defScope st_is_due) Γ.f_is_due 0 (defBody st_is_due) g_is_due := fun cdv A outer s H E hr =>
  have hu : A.units + 3 + 64 < cLine := hr.units
  (db_cons (ds_if (dt_cmp op_isP (opd_bool gIs_bool) (de_ix (de_var 0) de_int) de_non (nomark _))
    (db_one (ds_ret de_bl))
    db_nil)
  (db_cons (ds_if (dt_cmp (op_gtP hu) (opd_bool gGt_bool) (de_ix (de_var 1) de_int) de_int (nomark _))
    (db_one (ds_ret (de_and (de_cmp (op_eqP hu) (opd_bool gEq_bool) (de_ix (de_var 0) de_int) de_int (nomark _)) (de_one (de_cmp (op_eqP hu) (opd_bool gEq_bool) (de_ix (de_var 0) de_int) de_int (nomark _))))))
    db_nil)
  (db_one (ds_ret (de_if (dt_cmp (op_gtP hu) (opd_bool gGt_bool) (de_ix (de_var 1) de_int) de_int (nomark _)) (de_cmp (op_eqP hu) (opd_bool gEq_bool) (de_ix (de_var 0) de_int) de_int (nomark _)) de_bl)))))
theorem ok_is_due (Γ : Facts K mg) : FnOk P w K mg base CX0 1 Γ.f_is_due Γ.fd_is_due ["version", "counts"] (spP K f_is_due) := fn_P Γ.F_is_due sc_is_due rfl rfl (body_is_due Γ)
theorem sc_releases : FnScope ["version", "number", "found", "part", "count"] ["version", "number"] (defScope st_releases) := ⟨rfl, rfl, rfl, by decide +kernel, rfl, by decide +kernel, by decide +kernel⟩
noncomputable def g_releases : FS :=
  gSeq (gSet 2 (xC (.int 0)))
  (gSeq (gFor (iRange1 (aCons (xC (.int 3)) (aNil))) (kName 3)
    (gSeq (gSet 4 (xBin gSub (xVar 1) (xCall gInt (aCons (xFn f_is_due (aCons (xVar 0) (aCons (xTup (aCons (xCall gInt (aCons (xBin gEq (xVar 3) (xC (.int 0))) (aNil))) (aCons (xCall gInt (aCons (xBin gEq (xVar 3) (xC (.int 1))) (aNil))) (aCons (xCall gInt (aCons (xBin gEq (xVar 3) (xC (.int 2))) (aNil))) (aNil))))) (aNil)))) (aNil)))))
    (gIf (tOf (xBin gGt (xVar 4) (xC (.int 0))))
      (gAug 2 (fun i j => i + j) (xBin gIx (xL (xLst (aCons (xBin gFdiv (xBin gMul (xVar 4) (xBin gAdd (xVar 4) (xC (.int 1)))) (xC (.int 2))) (aCons (xVar 4) (aCons (xC (.int 1)) (aNil)))))) (xVar 3)))
      (gNx))))
  (gRet (xVar 2)))
noncomputable def f_releases : FP := callP g_releases 5 2
theorem body_releases (Γ : Facts K mg) : BodyOk P w K mg base CX0 ["version", "number", "found", "part", "count"] "releases" (defScope st_releases) Γ.f_releases 1 (defBody st_releases) g_releases := fun cdv A outer s H E hr =>
  have hu : A.units + 3 + 64 < cLine := hr.units
  (db_cons (ds_set 2 sc_releases.nd de_int)
  (db_cons (ds_for PassesOwn.never rfl (di_range1 Γ.n_range (da_cons de_int da_nil)) (dg_name 3 sc_releases.nd)
    (db_cons (ds_set 4 sc_releases.nd (de_bin op_sub opd_sub (de_var 1) (de_callTy call_intA calld_int Γ.n_int boot_int (da_cons (de_fn (ok_is_due Γ) (hr.mono (by decide)) Γ.m_is_due Γ.F_is_due.kp Γ.b_is_due pass0 (da_cons (de_var 0) (da_cons (de_tup (da_cons (de_callTy call_intA calld_int Γ.n_int boot_int (da_cons (de_cmp (op_eqP hu) (opd_bool gEq_bool) (de_var 3) de_int (nomark _)) da_nil)) (da_cons (de_callTy call_intA calld_int Γ.n_int boot_int (da_cons (de_cmp (op_eqP hu) (opd_bool gEq_bool) (de_var 3) de_int (nomark _)) da_nil)) (da_cons (de_callTy call_intA calld_int Γ.n_int boot_int (da_cons (de_cmp (op_eqP hu) (opd_bool gEq_bool) (de_var 3) de_int (nomark _)) da_nil)) da_nil)))) da_nil))) da_nil))))
    (db_one (ds_if (dt_cmp (op_gtP hu) (opd_bool gGt_bool) (de_var 4) de_int (nomark _))
      (db_one (ds_augI 2 ip_add sc_releases.nd (de_ix (de_of_dl (dl_lst (da_cons (de_bin op_fdivW opd_fdiv (de_bin op_mul opd_mul (de_var 4) (de_bin op_addP opd_add (de_var 4) de_int)) de_int) (da_cons (de_var 4) (da_cons de_int da_nil))))) (de_var 3))))
      db_nil))))
  (db_one (ds_ret (de_var 2)))))
theorem ok_releases (Γ : Facts K mg) : FnOk P w K mg base CX0 2 Γ.f_releases Γ.fd_releases ["version", "number"] (spP K f_releases) := fn_P Γ.F_releases sc_releases rfl rfl (body_releases Γ)
theorem sc_count_at : FnScope ["version", "number", "triples", "same"] ["version", "number"] (defScope st_count_at) := ⟨rfl, rfl, rfl, by decide +kernel, rfl, by decide +kernel, by decide +kernel⟩
noncomputable def g_count_at : FS :=
  gSeq (gIf (tOf (xBin gEq (xVar 1) (xC (.int 0))))
    (gRet (xC (.int 1)))
    (gNx))
  (gSeq (gSet 2 (xBin gAdd (xBin gAdd (xBin gFdiv (xBin gMul (xBin gMul (xBin gAdd (xVar 1) (xC (.int 2))) (xBin gAdd (xVar 1) (xC (.int 1)))) (xVar 1)) (xC (.int 6))) (xBin gFdiv (xBin gMul (xBin gAdd (xVar 1) (xC (.int 1))) (xVar 1)) (xC (.int 2)))) (xVar 1)))
  (gSeq (gSet 3 (xBin gAdd (xCall gInt (aCons (xBin gIsNot (xBin gIx (xVar 0) (xC (.int 3))) (xC .none)) (aNil))) (xCall gInt (aCons (xAnd (xBin gIsNot (xBin gIx (xVar 0) (xC (.int 3))) (xC .none)) (xBin gEq (xVar 1) (xC (.int 1)))) (aNil)))))
  (gRet (xBin gAdd (xBin gAdd (xVar 2) (xFn f_releases (aCons (xVar 0) (aCons (xVar 1) (aNil))))) (xVar 3)))))
noncomputable def f_count_at : FP := callP g_count_at 4 2
theorem body_count_at (Γ : Facts K mg) : BodyOk P w K mg base CX0 ["version", "number", "triples", "same"] "count_at" (defScope st_count_at) Γ.f_count_at 2 (defBody st_count_at) g_count_at := fun cdv A outer s H E hr =>
  have hu : A.units + 3 + 64 < cLine := hr.units
  (db_cons (ds_if (dt_cmp (op_eqP hu) (opd_bool gEq_bool) (de_var 1) de_int (nomark _))
    (db_one (ds_ret de_int))
    db_nil)
  (db_cons (ds_set 2 sc_count_at.nd (de_bin op_addP opd_add (de_bin op_addP opd_add (de_bin op_fdivW opd_fdiv (de_bin op_mul opd_mul (de_bin op_mul opd_mul (de_bin op_addP opd_add (de_var 1) de_int) (de_bin op_addP opd_add (de_var 1) de_int)) (de_var 1)) de_int) (de_bin op_fdivW opd_fdiv (de_bin op_mul opd_mul (de_bin op_addP opd_add (de_var 1) de_int) (de_var 1)) de_int)) (de_var 1)))
  (db_cons (ds_set 3 sc_count_at.nd (de_bin op_addP opd_add (de_callTy call_intA calld_int Γ.n_int boot_int (da_cons (de_cmp op_isNotP (opd_bool gIsNot_bool) (de_ix (de_var 0) de_int) de_non (nomark _)) da_nil)) (de_callTy call_intA calld_int Γ.n_int boot_int (da_cons (de_and (de_cmp op_isNotP (opd_bool gIsNot_bool) (de_ix (de_var 0) de_int) de_non (nomark _)) (de_one (de_cmp (op_eqP hu) (opd_bool gEq_bool) (de_var 1) de_int (nomark _)))) da_nil))))
  (db_one (ds_ret (de_bin op_addP opd_add (de_bin op_addP opd_add (de_var 2) (de_fn (ok_releases Γ) (hr.mono (by decide)) Γ.m_releases Γ.F_releases.kp Γ.b_releases pass0 (da_cons (de_var 0) (da_cons (de_var 1) da_nil)))) (de_var 3)))))))
theorem ok_count_at (Γ : Facts K mg) : FnOk P w K mg base CX0 3 Γ.f_count_at Γ.fd_count_at ["version", "number"] (spP K f_count_at) := fn_P Γ.F_count_at sc_count_at rfl rfl (body_count_at Γ)
theorem sc__law_commands : FnScope [] [] (defScope st__law_commands) := ⟨rfl, rfl, rfl, by decide +kernel, rfl, by decide +kernel, by decide +kernel⟩
noncomputable def g__law_commands : FS :=
  gRetL (xLst (aCons (xC (.str "major")) (aCons (xC (.str "minor")) (aCons (xC (.str "patch")) (aCons (xC (.str "premajor")) (aCons (xC (.str "preminor")) (aCons (xC (.str "prepatch")) (aCons (xC (.str "prerelease")) (aNil)))))))))
noncomputable def f__law_commands : FPL := callL g__law_commands 0 0
theorem body__law_commands (Γ : Facts K mg) : BodyOk P w K mg base CX0 [] "_law_commands" (defScope st__law_commands) Γ.f__law_commands 0 (defBody st__law_commands) g__law_commands := fun cdv A outer s H E hr =>
  have hu : A.units + 3 + 64 < cLine := hr.units
  (db_one (ds_retL (dl_lst (da_cons de_str (da_cons de_str (da_cons de_str (da_cons de_str (da_cons de_str (da_cons de_str (da_cons de_str da_nil))))))))))
theorem ok__law_commands (Γ : Facts K mg) : FnOk P w K mg base CX0 1 Γ.f__law_commands Γ.fd__law_commands [] (spL K f__law_commands) := fn_L Γ.F__law_commands sc__law_commands rfl rfl (body__law_commands Γ)
theorem sc__law_step : FnScope ["version", "command", "a", "b", "c", "p", "zeros", "part", "numbers"] ["version", "command"] (defScope st__law_step) := ⟨rfl, rfl, rfl, by decide +kernel, rfl, by decide +kernel, by decide +kernel⟩
noncomputable def g__law_step : FS :=
  gSeq (gAsg (xVar 0) (kTup [2, 3, 4, 5]))
  (gSeq (gSet 6 (xL (xLst (aCons (xAnd (xBin gEq (xVar 3) (xC (.int 0))) (xBin gEq (xVar 4) (xC (.int 0)))) (aCons (xBin gEq (xVar 4) (xC (.int 0))) (aCons (xC (.bool true)) (aNil)))))))
  (gSeq (gIf (tAnd (tOf (xBin gEq (xVar 1) (xC (.str "prerelease")))) (tOf (xBin gIsNot (xVar 5) (xC .none))))
    (gRet (xTup (aCons (xVar 2) (aCons (xVar 3) (aCons (xVar 4) (aCons (xBin gAdd (xVar 5) (xC (.int 1))) (aNil)))))))
    (gNx))
  (gSeq (gSet 7 (xPart ["major", "minor", "patch"] "prerelease" "patch" "pre" "" (xVar 1)))
  (gSeq (gSet 8 (xL (xLst (aCons (xVar 2) (aCons (xVar 3) (aCons (xVar 4) (aNil)))))))
  (gSeq (gIf (tOr (tOf (xBin gEq (xSl (xVar 1) (oNone) (oSome (xC (.int 3)))) (xC (.str "pre")))) (tOr (tOf (xBin gIs (xVar 5) (xC .none))) (tNot (tOf (xBin gIx (xVar 6) (xVar 7))))))
    (gSet 8 (xL (xBinL gAddL (xL (xBinL gAddL (xL (xSlL (xVar 8) (oNone) (oSome (xVar 7)))) (xL (xLst (aCons (xBin gAdd (xBin gIx (xVar 8) (xVar 7)) (xC (.int 1))) (aNil)))))) (xL (xBinL gRepL (xL (xLst (aCons (xC (.int 0)) (aNil)))) (xBin gSub (xC (.int 2)) (xVar 7)))))))
    (gNx))
  (gRet (xTup (aCons (xBin gIx (xVar 8) (xC (.int 0))) (aCons (xBin gIx (xVar 8) (xC (.int 1))) (aCons (xBin gIx (xVar 8) (xC (.int 2))) (aCons (xIf (tOf (xBin gEq (xSl (xVar 1) (oNone) (oSome (xC (.int 3)))) (xC (.str "pre")))) (xC (.int 0)) (xC .none)) (aNil))))))))))))
noncomputable def f__law_step : FP := callP g__law_step 9 2
theorem body__law_step (Γ : Facts K mg) : BodyOk P w K mg base CX0 ["version", "command", "a", "b", "c", "p", "zeros", "part", "numbers"] "_law_step" (defScope st__law_step) Γ.f__law_step 0 (defBody st__law_step) g__law_step := fun cdv A outer s H E hr =>
  have hu : A.units + 3 + 64 < cLine := hr.units
  (db_cons (ds_asg (de_var 0) (dg_tup rfl (dgs_cons 2 sc__law_step.nd (dgs_cons 3 sc__law_step.nd (dgs_cons 4 sc__law_step.nd (dgs_cons 5 sc__law_step.nd dgs_nil))))))
  (db_cons (ds_set 6 sc__law_step.nd (de_of_dl (dl_lst (da_cons (de_and (de_cmp (op_eqP hu) (opd_bool gEq_bool) (de_var 3) de_int (nomark _)) (de_one (de_cmp (op_eqP hu) (opd_bool gEq_bool) (de_var 4) de_int (nomark _)))) (da_cons (de_cmp (op_eqP hu) (opd_bool gEq_bool) (de_var 4) de_int (nomark _)) (da_cons de_bl da_nil))))))
  (db_cons (ds_if (dt_w (dw_and (dt_cmp (op_eqP hu) (opd_bool gEq_bool) (de_var 1) de_str (nomark _)) (dw_and1 (dt_cmp op_isNotP (opd_bool gIsNot_bool) (de_var 5) de_non (nomark _)))))
    (db_one (ds_ret (de_tup (da_cons (de_var 2) (da_cons (de_var 3) (da_cons (de_var 4) (da_cons (de_bin op_addP opd_add (de_var 5) de_int) da_nil)))))))
    db_nil)
  (db_cons (ds_set 7 sc__law_step.nd (de_part (ws := ["minor", "patch"]) (pa_cons pe_str (pa_cons pe_str pa_nil)) (by decide) (de_var 1)))
  (db_cons (ds_set 8 sc__law_step.nd (de_of_dl (dl_lst (da_cons (de_var 2) (da_cons (de_var 3) (da_cons (de_var 4) da_nil))))))
  (db_cons (ds_if (dt_w (dw_or (dt_cmp (op_eqP hu) (opd_bool gEq_bool) (de_sl (de_var 1) do_none (do_some de_int)) de_str (nomark _)) (dw_or (dt_cmp op_isP (opd_bool gIs_bool) (de_var 5) de_non (nomark _)) (dw_or1 (dt_not (dt_val (de_ix (de_var 6) (de_var 7))))))))
    (db_one (ds_set 8 sc__law_step.nd (de_of_dl (dl_bin op_cat opl_add (de_of_dl (dl_bin op_cat opl_add (de_of_dl (dl_sl (de_var 8) do_none (do_some (de_var 7)))) (de_of_dl (dl_lst (da_cons (de_bin op_addP opd_add (de_ix (de_var 8) (de_var 7)) de_int) da_nil))))) (de_of_dl (dl_bin op_rep opl_rep (de_of_dl (dl_lst (da_cons de_int da_nil))) (de_bin op_sub opd_sub de_int (de_var 7))))))))
    db_nil)
  (db_one (ds_ret (de_tup (da_cons (de_ix (de_var 8) de_int) (da_cons (de_ix (de_var 8) de_int) (da_cons (de_ix (de_var 8) de_int) (da_cons (de_if (dt_cmp (op_eqP hu) (opd_bool gEq_bool) (de_sl (de_var 1) do_none (do_some de_int)) de_str (nomark _)) de_int de_non) da_nil)))))))))))))
theorem ok__law_step (Γ : Facts K mg) : FnOk P w K mg base CX0 1 Γ.f__law_step Γ.fd__law_step ["version", "command"] (spP K f__law_step) := fn_P Γ.F__law_step sc__law_step rfl rfl (body__law_step Γ)
theorem sc__law_layers : FnScope ["version", "depth", "seen", "found", "turn", "layer", "old", "command", "new"] ["version", "depth"] (defScope st__law_layers) := ⟨rfl, rfl, rfl, by decide +kernel, rfl, by decide +kernel, by decide +kernel⟩
noncomputable def g__law_layers : FS :=
  gSeq (gInit 2 3 0 (.bool true) (.int 1))
  (gSeq (gFor (iRange1 (aCons (xVar 1) (aNil))) (kName 4)
    (gSeq (gNewN 5)
    (gSeq (gFor (iKeysD (xBin gIx (xVar 3) (xUn gNeg (xC (.int 1))))) (kName 6)
      (gFor (iItems (xL (xFnL f__law_commands aNil))) (kName 7)
        (gSeq (gSet 8 (xFn f__law_step (aCons (xVar 6) (aCons (xVar 7) (aNil)))))
        (gIf (tOf (xBin gNotInN (xVar 8) (xVar 2)))
          (gSetN 5 (xVar 8) (xBin gAdd (xGetN (xVar 5) (xVar 8) (xC (.int 0))) (xBin gIxN (xBin gIx (xVar 3) (xUn gNeg (xC (.int 1)))) (xVar 6))))
          (gNx)))))
    (gSeq (gFor (iKeysD (xVar 5)) (kName 8)
      (gSetN 2 (xVar 8) (xC (.bool true))))
    (gApp 3 (xVar 5))))))
  (gRet (xVar 3)))
noncomputable def f__law_layers : FPL := callL g__law_layers 9 2
theorem body__law_layers (Γ : Facts K mg) : BodyOk P w K mg base CX0 ["version", "depth", "seen", "found", "turn", "layer", "old", "command", "new"] "_law_layers" (defScope st__law_layers) Γ.f__law_layers 1 (defBody st__law_layers) g__law_layers := fun cdv A outer s H E hr =>
  have hu : A.units + 3 + 64 < cLine := hr.units
  (db_cons (ds_init 2 3 0 hu sc__law_layers.nd pe_bl pe_int (fun _ _ => .bl _) (fun _ _ => .int _))
  (db_cons (ds_for PassesOwn.never rfl (di_range1 Γ.n_range (da_cons (de_var 1) da_nil)) (dg_name 4 sc__law_layers.nd)
    (db_cons (ds_newN 5 sc__law_layers.nd)
    (db_cons (ds_for PassesOwn.never rfl (di_keys (de_ix (de_var 3) (de_un un_neg und_neg de_int))) (dg_name 6 sc__law_layers.nd)
      (db_one (ds_for PassesOwn.never rfl (di_seq (de_of_dl (dl_fn0 (ok__law_commands Γ) (hr.mono (by decide)) Γ.m__law_commands Γ.F__law_commands.kp Γ.b__law_commands pass0))) (dg_name 7 sc__law_layers.nd)
        (db_cons (ds_set 8 sc__law_layers.nd (de_fn (ok__law_step Γ) (hr.mono (by decide)) Γ.m__law_step Γ.F__law_step.kp Γ.b__law_step pass0 (da_cons (de_var 6) (da_cons (de_var 7) da_nil))))
        (db_one (ds_if (dt_cmp (op_notInN' hu) opd_notInN (de_var 8) (de_var 2) (by with_unfolding_all rfl))
          (db_one (ds_setN 5 (lt_u1 hu) (de_var 8) (de_bin op_addP opd_add (de_getN (lt_u1 hu) (de_var 5) (de_var 8) de_int) (de_ixN hu (de_ix (de_var 3) (de_un un_neg und_neg de_int)) (de_var 6)))))
          db_nil))))))
    (db_cons (ds_for PassesOwn.never rfl (di_keys (de_var 5)) (dg_name 8 sc__law_layers.nd)
      (db_one (ds_setN 2 (lt_u1 hu) (de_var 8) de_bl)))
    (db_one (ds_app 3 (de_var 5)))))))
  (db_one (ds_ret (de_var 3)))))
theorem ok__law_layers (Γ : Facts K mg) : FnOk P w K mg base CX0 2 Γ.f__law_layers Γ.fd__law_layers ["version", "depth"] (spL K f__law_layers) := fn_L Γ.F__law_layers sc__law_layers rfl rfl (body__law_layers Γ)
theorem sc__law_like : FnScope ["one", "two", "k"] ["one", "two"] (defScope st__law_like) := ⟨rfl, rfl, rfl, by decide +kernel, rfl, by decide +kernel, by decide +kernel⟩
noncomputable def g__law_like (self : FP) : FS :=
  gSeq (gIf (tOf (xIsi ["list", "tuple"] (xVar 0)))
    (gSeq (gIf (tOr (tOf (xBin gNe (xIsi ["list"] (xVar 0)) (xIsi ["list"] (xVar 1)))) (tOf (xBin gNe (xIsi ["tuple"] (xVar 0)) (xIsi ["tuple"] (xVar 1)))))
      (gRet (xC (.bool false)))
      (gNx))
    (gSeq (gIf (tOf (xBin gNe (xCall gLen (aCons (xVar 0) (aNil))) (xCall gLen (aCons (xVar 1) (aNil)))))
      (gRet (xC (.bool false)))
      (gNx))
    (gRet (xBin gEq (xL (xComp [2] (iRange1 (aCons (xCall gLen (aCons (xVar 0) (aNil))) (aNil))) (kName 2) (tNot (tOf (xFn self (aCons (xBin gIx (xVar 0) (xVar 2)) (aCons (xBin gIx (xVar 1) (xVar 2)) (aNil)))))) (xVar 2))) (xL (xLst (aNil)))))))
    (gNx))
  (gSeq (gIf (tOf (xIsi ["list", "tuple"] (xVar 1)))
    (gRet (xC (.bool false)))
    (gNx))
  (gRet (xAnd (xBin gEq (xIsi ["bool"] (xVar 0)) (xIsi ["bool"] (xVar 1))) (xBin gEq (xVar 0) (xVar 1)))))
noncomputable def f__law_like : Nat → FP
  | 0 => callP (fun _ => none) 3 2
  | n + 1 => callP (g__law_like (f__law_like n)) 3 2
theorem body__law_like (Γ : Facts K mg) (n : Nat) (self : FP) (hself : FnOk P w K mg base CX0 (n + 1) Γ.f__law_like Γ.fd__law_like ["one", "two"] (spP K self)) : BodyOk P w K mg base CX0 ["one", "two", "k"] "_law_like" (defScope st__law_like) Γ.f__law_like (n + 1) (defBody st__law_like) (g__law_like self) := fun cdv A outer s H E hr =>
  have hu : A.units + 3 + 64 < cLine := hr.units
  (db_cons (ds_if (dt_val (de_isiT (by intro T h; simp only [List.mem_cons, List.not_mem_nil, or_false] at h; rcases h with rfl | rfl; exact kits_list; exact kits_tuple) (by decide) Γ.n_isinstance (de_var 0) (pa_ty (ts := ["tuple"]) (pe_bltn rfl Γ.n_list boot_list rfl) (pa_ty (ts := []) (pe_bltn rfl Γ.n_tuple boot_tuple rfl) pa_nil))))
    (db_cons (ds_if (dt_w (dw_or (dt_cmp (op_neP hu) (opd_bool gNe_bool) (de_isi kits_list Γ.n_isinstance (de_var 0) (pe_bltn rfl Γ.n_list boot_list rfl)) (de_isi kits_list Γ.n_isinstance (de_var 1) (pe_bltn rfl Γ.n_list boot_list rfl)) (nomark _)) (dw_or1 (dt_cmp (op_neP hu) (opd_bool gNe_bool) (de_isi kits_tuple Γ.n_isinstance (de_var 0) (pe_bltn rfl Γ.n_tuple boot_tuple rfl)) (de_isi kits_tuple Γ.n_isinstance (de_var 1) (pe_bltn rfl Γ.n_tuple boot_tuple rfl)) (nomark _)))))
      (db_one (ds_ret de_bl))
      db_nil)
    (db_cons (ds_if (dt_cmp (op_neP hu) (opd_bool gNe_bool) (de_callB call_len calld_len Γ.n_len boot_len (da_cons (de_var 0) da_nil)) (de_callB call_len calld_len Γ.n_len boot_len (da_cons (de_var 1) da_nil)) (nomark _))
      (db_one (ds_ret de_bl))
      db_nil)
    (db_one (ds_ret (de_cmp (op_eqP hu) (opd_bool gEq_bool) (de_of_dl (dl_comp [("k", 2)] sc__law_like.nd (di_range1 Γ.n_range (da_cons (de_callB call_len calld_len Γ.n_len boot_len (da_cons (de_var 0) da_nil)) da_nil)) (blkOk_by (by kernel_rfl)) (by decide) (fun _ _ _ _ _ => (dg_name 2 sc__law_like.nd)) (fun _ _ _ _ _ => (dts_one (dt_not (dt_val (de_fn hself hr Γ.m__law_like Γ.F__law_like.kp Γ.b__law_like pass0 (da_cons (de_ix (de_var 0) (de_var 2)) (da_cons (de_ix (de_var 1) (de_var 2)) da_nil))))))) (fun _ _ _ _ _ => (de_var 2)))) (de_of_dl (dl_lst da_nil)) (nomark _))))))
    db_nil)
  (db_cons (ds_if (dt_val (de_isiT (by intro T h; simp only [List.mem_cons, List.not_mem_nil, or_false] at h; rcases h with rfl | rfl; exact kits_list; exact kits_tuple) (by decide) Γ.n_isinstance (de_var 1) (pa_ty (ts := ["tuple"]) (pe_bltn rfl Γ.n_list boot_list rfl) (pa_ty (ts := []) (pe_bltn rfl Γ.n_tuple boot_tuple rfl) pa_nil))))
    (db_one (ds_ret de_bl))
    db_nil)
  (db_one (ds_ret (de_and (de_cmp (op_eqP hu) (opd_bool gEq_bool) (de_isi kits_bool Γ.n_isinstance (de_var 0) (pe_bltn rfl Γ.n_bool boot_bool rfl)) (de_isi kits_bool Γ.n_isinstance (de_var 1) (pe_bltn rfl Γ.n_bool boot_bool rfl)) (nomark _)) (de_one (de_cmp (op_eqP hu) (opd_bool gEq_bool) (de_var 0) (de_var 1) (nomark _))))))))
theorem okn__law_like (Γ : Facts K mg) : ∀ n : Nat, FnOk P w K mg base CX0 (n + 1) Γ.f__law_like Γ.fd__law_like ["one", "two"] (spP K (f__law_like n))
  | 0 => fn_P Γ.F__law_like sc__law_like rfl rfl (k := 0 + 0) body_none
  | n + 1 => (show n + 1 + 1 = (n + 1) + 1 by omega) ▸ fn_P Γ.F__law_like sc__law_like rfl rfl (body__law_like Γ n _ (okn__law_like Γ n))
theorem ok__law_like (Γ : Facts K mg) (n : Nat) : FnOk P w K mg base CX0 (n + 1) Γ.f__law_like Γ.fd__law_like ["one", "two"] (spP K (f__law_like n)) := okn__law_like Γ n
theorem sc_raised : FnScope ["version", "command", "major", "minor", "patch", "pre", "before"] ["version", "command"] (defScope st_raised) := ⟨rfl, rfl, rfl, by decide +kernel, rfl, by decide +kernel, by decide +kernel⟩
noncomputable def g_raised : FS :=
  gSeq (gAsg (xVar 0) (kTup [2, 3, 4, 5]))
  (gSeq (gSet 6 (xBin gIsNot (xVar 5) (xC .none)))
  (gMatch (xVar 1) (mStr "major" (gRet (xTup (aCons (xIf (tAnd (tOf (xVar 6)) (tAnd (tOf (xBin gEq (xVar 3) (xC (.int 0)))) (tOf (xBin gEq (xVar 4) (xC (.int 0)))))) (xVar 2) (xBin gAdd (xVar 2) (xC (.int 1)))) (aCons (xC (.int 0)) (aCons (xC (.int 0)) (aCons (xC .none) (aNil)))))))
    (mStr "minor" (gRet (xTup (aCons (xVar 2) (aCons (xIf (tAnd (tOf (xVar 6)) (tOf (xBin gEq (xVar 4) (xC (.int 0))))) (xVar 3) (xBin gAdd (xVar 3) (xC (.int 1)))) (aCons (xC (.int 0)) (aCons (xC .none) (aNil)))))))
    (mStr "patch" (gRet (xTup (aCons (xVar 2) (aCons (xVar 3) (aCons (xIf (tOf (xVar 6)) (xVar 4) (xBin gAdd (xVar 4) (xC (.int 1)))) (aCons (xC .none) (aNil)))))))
    (mStr "premajor" (gRet (xTup (aCons (xBin gAdd (xVar 2) (xC (.int 1))) (aCons (xC (.int 0)) (aCons (xC (.int 0)) (aCons (xC (.int 0)) (aNil)))))))
    (mStr "preminor" (gRet (xTup (aCons (xVar 2) (aCons (xBin gAdd (xVar 3) (xC (.int 1))) (aCons (xC (.int 0)) (aCons (xC (.int 0)) (aNil)))))))
    (mStr "prepatch" (gRet (xTup (aCons (xVar 2) (aCons (xVar 3) (aCons (xBin gAdd (xVar 4) (xC (.int 1))) (aCons (xC (.int 0)) (aNil)))))))
    (mAny (gRet (xIf (tOf (xBin gIsNot (xVar 5) (xC .none))) (xTup (aCons (xVar 2) (aCons (xVar 3) (aCons (xVar 4) (aCons (xBin gAdd (xVar 5) (xC (.int 1))) (aNil)))))) (xTup (aCons (xVar 2) (aCons (xVar 3) (aCons (xBin gAdd (xVar 4) (xC (.int 1))) (aCons (xC (.int 0)) (aNil)))))))))))))))))
noncomputable def f_raised : FP := callP g_raised 7 2
theorem body_raised (Γ : Facts K mg) : BodyOk P w K mg base CX0 ["version", "command", "major", "minor", "patch", "pre", "before"] "raised" (defScope st_raised) Γ.f_raised 0 (defBody st_raised) g_raised := fun cdv A outer s H E hr =>
  have hu : A.units + 3 + 64 < cLine := hr.units
  (db_cons (ds_asg (de_var 0) (dg_tup rfl (dgs_cons 2 sc_raised.nd (dgs_cons 3 sc_raised.nd (dgs_cons 4 sc_raised.nd (dgs_cons 5 sc_raised.nd dgs_nil))))))
  (db_cons (ds_set 6 sc_raised.nd (de_cmp op_isNotP (opd_bool gIsNot_bool) (de_var 5) de_non (nomark _)))
  (db_one (ds_match (de_var 1) (dc_str hu (db_one (ds_ret (de_tup (da_cons (de_if (dt_w (dw_and (dt_val (de_var 6)) (dw_and (dt_cmp (op_eqP hu) (opd_bool gEq_bool) (de_var 3) de_int (nomark _)) (dw_and1 (dt_cmp (op_eqP hu) (opd_bool gEq_bool) (de_var 4) de_int (nomark _)))))) (de_var 2) (de_bin op_addP opd_add (de_var 2) de_int)) (da_cons de_int (da_cons de_int (da_cons de_non da_nil)))))))
    (dc_str hu (db_one (ds_ret (de_tup (da_cons (de_var 2) (da_cons (de_if (dt_w (dw_and (dt_val (de_var 6)) (dw_and1 (dt_cmp (op_eqP hu) (opd_bool gEq_bool) (de_var 4) de_int (nomark _))))) (de_var 3) (de_bin op_addP opd_add (de_var 3) de_int)) (da_cons de_int (da_cons de_non da_nil)))))))
    (dc_str hu (db_one (ds_ret (de_tup (da_cons (de_var 2) (da_cons (de_var 3) (da_cons (de_if (dt_val (de_var 6)) (de_var 4) (de_bin op_addP opd_add (de_var 4) de_int)) (da_cons de_non da_nil)))))))
    (dc_str hu (db_one (ds_ret (de_tup (da_cons (de_bin op_addP opd_add (de_var 2) de_int) (da_cons de_int (da_cons de_int (da_cons de_int da_nil)))))))
    (dc_str hu (db_one (ds_ret (de_tup (da_cons (de_var 2) (da_cons (de_bin op_addP opd_add (de_var 3) de_int) (da_cons de_int (da_cons de_int da_nil)))))))
    (dc_str hu (db_one (ds_ret (de_tup (da_cons (de_var 2) (da_cons (de_var 3) (da_cons (de_bin op_addP opd_add (de_var 4) de_int) (da_cons de_int da_nil)))))))
    (dc_any (db_one (ds_ret (de_if (dt_cmp op_isNotP (opd_bool gIsNot_bool) (de_var 5) de_non (nomark _)) (de_tup (da_cons (de_var 2) (da_cons (de_var 3) (da_cons (de_var 4) (da_cons (de_bin op_addP opd_add (de_var 5) de_int) da_nil))))) (de_tup (da_cons (de_var 2) (da_cons (de_var 3) (da_cons (de_bin op_addP opd_add (de_var 4) de_int) (da_cons de_int da_nil)))))))))))))))))))
theorem ok_raised (Γ : Facts K mg) : FnOk P w K mg base CX0 1 Γ.f_raised Γ.fd_raised ["version", "command"] (spP K f_raised) := fn_P Γ.F_raised sc_raised rfl rfl (body_raised Γ)
theorem sc_raises : FnScope ["version", "target"] ["version", "target"] (defScope st_raises) := ⟨rfl, rfl, rfl, by decide +kernel, rfl, by decide +kernel, by decide +kernel⟩
noncomputable def g_raises : FS :=
  gSeq (gIf (tOf (xBin gNe (xBin gIx (xVar 1) (xC (.int 0))) (xBin gIx (xVar 0) (xC (.int 0)))))
    (gRet (xTup (aCons (xBin gSub (xBin gIx (xVar 1) (xC (.int 0))) (xBin gIx (xVar 0) (xC (.int 0)))) (aCons (xBin gIx (xVar 1) (xC (.int 1))) (aCons (xBin gIx (xVar 1) (xC (.int 2))) (aNil))))))
    (gNx))
  (gSeq (gIf (tOf (xBin gNe (xBin gIx (xVar 1) (xC (.int 1))) (xBin gIx (xVar 0) (xC (.int 1)))))
    (gRet (xTup (aCons (xC (.int 0)) (aCons (xBin gSub (xBin gIx (xVar 1) (xC (.int 1))) (xBin gIx (xVar 0) (xC (.int 1)))) (aCons (xBin gIx (xVar 1) (xC (.int 2))) (aNil))))))
    (gNx))
  (gRet (xTup (aCons (xC (.int 0)) (aCons (xC (.int 0)) (aCons (xBin gSub (xBin gIx (xVar 1) (xC (.int 2))) (xBin gIx (xVar 0) (xC (.int 2)))) (aNil)))))))
noncomputable def f_raises : FP := callP g_raises 2 2
theorem body_raises (Γ : Facts K mg) : BodyOk P w K mg base CX0 ["version", "target"] "raises" (defScope st_raises) Γ.f_raises 0 (defBody st_raises) g_raises := fun cdv A outer s H E hr =>
  have hu : A.units + 3 + 64 < cLine := hr.units
  (db_cons (ds_if (dt_cmp (op_neP hu) (opd_bool gNe_bool) (de_ix (de_var 1) de_int) (de_ix (de_var 0) de_int) (nomark _))
    (db_one (ds_ret (de_tup (da_cons (de_bin op_sub opd_sub (de_ix (de_var 1) de_int) (de_ix (de_var 0) de_int)) (da_cons (de_ix (de_var 1) de_int) (da_cons (de_ix (de_var 1) de_int) da_nil))))))
    db_nil)
  (db_cons (ds_if (dt_cmp (op_neP hu) (opd_bool gNe_bool) (de_ix (de_var 1) de_int) (de_ix (de_var 0) de_int) (nomark _))
    (db_one (ds_ret (de_tup (da_cons de_int (da_cons (de_bin op_sub opd_sub (de_ix (de_var 1) de_int) (de_ix (de_var 0) de_int)) (da_cons (de_ix (de_var 1) de_int) da_nil))))))
    db_nil)
  (db_one (ds_ret (de_tup (da_cons de_int (da_cons de_int (da_cons (de_bin op_sub opd_sub (de_ix (de_var 1) de_int) (de_ix (de_var 0) de_int)) da_nil))))))))
theorem ok_raises (Γ : Facts K mg) : FnOk P w K mg base CX0 1 Γ.f_raises Γ.fd_raises ["version", "target"] (spP K f_raises) := fn_P Γ.F_raises sc_raises rfl rfl (body_raises Γ)
theorem sc_rank : FnScope ["version", "major", "minor", "patch", "pre"] ["version"] (defScope st_rank) := ⟨rfl, rfl, rfl, by decide +kernel, rfl, by decide +kernel, by decide +kernel⟩
noncomputable def g_rank : FS :=
  gSeq (gAsg (xVar 0) (kTup [1, 2, 3, 4]))
  (gRet (xTup (aCons (xVar 1) (aCons (xVar 2) (aCons (xVar 3) (aCons (xBin gIs (xVar 4) (xC .none)) (aCons (xIf (tOf (xBin gIs (xVar 4) (xC .none))) (xC (.int 0)) (xVar 4)) (aNil))))))))
noncomputable def f_rank : FP := callP g_rank 5 1
theorem body_rank (Γ : Facts K mg) : BodyOk P w K mg base CX0 ["version", "major", "minor", "patch", "pre"] "rank" (defScope st_rank) Γ.f_rank 0 (defBody st_rank) g_rank := fun cdv A outer s H E hr =>
  have hu : A.units + 3 + 64 < cLine := hr.units
  (db_cons (ds_asg (de_var 0) (dg_tup rfl (dgs_cons 1 sc_rank.nd (dgs_cons 2 sc_rank.nd (dgs_cons 3 sc_rank.nd (dgs_cons 4 sc_rank.nd dgs_nil))))))
  (db_one (ds_ret (de_tup (da_cons (de_var 1) (da_cons (de_var 2) (da_cons (de_var 3) (da_cons (de_cmp op_isP (opd_bool gIs_bool) (de_var 4) de_non (nomark _)) (da_cons (de_if (dt_cmp op_isP (opd_bool gIs_bool) (de_var 4) de_non (nomark _)) de_int (de_var 4)) da_nil)))))))))
theorem ok_rank (Γ : Facts K mg) : FnOk P w K mg base CX0 1 Γ.f_rank Γ.fd_rank ["version"] (spP K f_rank) := fn_P Γ.F_rank sc_rank rfl rfl (body_rank Γ)
theorem sc_compare : FnScope ["one", "other"] ["one", "other"] (defScope st_compare) := ⟨rfl, rfl, rfl, by decide +kernel, rfl, by decide +kernel, by decide +kernel⟩
noncomputable def g_compare : FS :=
  gSeq (gIf (tOf (xBin gEq (xVar 0) (xVar 1)))
    (gRet (xC (.int 0)))
    (gNx))
  (gRet (xIf (tOf (xBin gLt (xFn f_rank (aCons (xVar 0) (aNil))) (xFn f_rank (aCons (xVar 1) (aNil))))) (xUn gNeg (xC (.int 1))) (xC (.int 1))))
noncomputable def f_compare : FP := callP g_compare 2 2
theorem body_compare (Γ : Facts K mg) : BodyOk P w K mg base CX0 ["one", "other"] "compare" (defScope st_compare) Γ.f_compare 1 (defBody st_compare) g_compare := fun cdv A outer s H E hr =>
  have hu : A.units + 3 + 64 < cLine := hr.units
  (db_cons (ds_if (dt_cmp (op_eqP hu) (opd_bool gEq_bool) (de_var 0) (de_var 1) (nomark _))
    (db_one (ds_ret de_int))
    db_nil)
  (db_one (ds_ret (de_if (dt_cmp (op_ltP hu) (opd_bool gLt_bool) (de_fn (ok_rank Γ) (hr.mono (by decide)) Γ.m_rank Γ.F_rank.kp Γ.b_rank pass0 (da_cons (de_var 0) da_nil)) (de_fn (ok_rank Γ) (hr.mono (by decide)) Γ.m_rank Γ.F_rank.kp Γ.b_rank pass0 (da_cons (de_var 1) da_nil)) (nomark _)) (de_un un_neg und_neg de_int) de_int))))
theorem ok_compare (Γ : Facts K mg) : FnOk P w K mg base CX0 2 Γ.f_compare Γ.fd_compare ["one", "other"] (spP K f_compare) := fn_P Γ.F_compare sc_compare rfl rfl (body_compare Γ)
theorem sc_fewest : FnScope ["version", "target", "counts"] ["version", "target"] (defScope st_fewest) := ⟨rfl, rfl, rfl, by decide +kernel, rfl, by decide +kernel, by decide +kernel⟩
noncomputable def g_fewest : FS :=
  gSeq (gIf (tOf (xBin gLt (xFn f_compare (aCons (xVar 1) (aCons (xVar 0) (aNil)))) (xC (.int 0))))
    (gRet (xC .none))
    (gNx))
  (gSeq (gIf (tOf (xBin gEq (xVar 0) (xVar 1)))
    (gRet (xC (.int 0)))
    (gNx))
  (gSeq (gIf (tOf (xBin gEq (xSl (xVar 0) (oNone) (oSome (xC (.int 3)))) (xSl (xVar 1) (oNone) (oSome (xC (.int 3))))))
    (gRet (xIf (tOf (xBin gIs (xBin gIx (xVar 1) (xC (.int 3))) (xC .none))) (xC (.int 1)) (xBin gSub (xBin gIx (xVar 1) (xC (.int 3))) (xBin gIx (xVar 0) (xC (.int 3))))))
    (gNx))
  (gSeq (gSet 2 (xFn f_raises (aCons (xVar 0) (aCons (xVar 1) (aNil)))))
  (gSeq (gIf (tOf (xBin gIsNot (xBin gIx (xVar 1) (xC (.int 3))) (xC .none)))
    (gRet (xBin gAdd (xCall gSum (aCons (xVar 2) (aNil))) (xBin gIx (xVar 1) (xC (.int 3)))))
    (gNx))
  (gRet (xBin gAdd (xCall gSum (aCons (xVar 2) (aNil))) (xCall gInt (aCons (xFn f_is_due (aCons (xVar 0) (aCons (xVar 2) (aNil)))) (aNil)))))))))
noncomputable def f_fewest : FP := callP g_fewest 3 2
theorem body_fewest (Γ : Facts K mg) : BodyOk P w K mg base CX0 ["version", "target", "counts"] "fewest" (defScope st_fewest) Γ.f_fewest 2 (defBody st_fewest) g_fewest := fun cdv A outer s H E hr =>
  have hu : A.units + 3 + 64 < cLine := hr.units
  (db_cons (ds_if (dt_cmp (op_ltP hu) (opd_bool gLt_bool) (de_fn (ok_compare Γ) (hr.mono (by decide)) Γ.m_compare Γ.F_compare.kp Γ.b_compare pass0 (da_cons (de_var 1) (da_cons (de_var 0) da_nil))) de_int (nomark _))
    (db_one (ds_ret de_non))
    db_nil)
  (db_cons (ds_if (dt_cmp (op_eqP hu) (opd_bool gEq_bool) (de_var 0) (de_var 1) (nomark _))
    (db_one (ds_ret de_int))
    db_nil)
  (db_cons (ds_if (dt_cmp (op_eqP hu) (opd_bool gEq_bool) (de_sl (de_var 0) do_none (do_some de_int)) (de_sl (de_var 1) do_none (do_some de_int)) (nomark _))
    (db_one (ds_ret (de_if (dt_cmp op_isP (opd_bool gIs_bool) (de_ix (de_var 1) de_int) de_non (nomark _)) de_int (de_bin op_sub opd_sub (de_ix (de_var 1) de_int) (de_ix (de_var 0) de_int)))))
    db_nil)
  (db_cons (ds_set 2 sc_fewest.nd (de_fn (ok_raises Γ) (hr.mono (by decide)) Γ.m_raises Γ.F_raises.kp Γ.b_raises pass0 (da_cons (de_var 0) (da_cons (de_var 1) da_nil))))
  (db_cons (ds_if (dt_cmp op_isNotP (opd_bool gIsNot_bool) (de_ix (de_var 1) de_int) de_non (nomark _))
    (db_one (ds_ret (de_bin op_addP opd_add (de_callB (call_sumA rfl) calld_sum Γ.n_sum boot_sum (da_cons (de_var 2) da_nil)) (de_ix (de_var 1) de_int))))
    db_nil)
  (db_one (ds_ret (de_bin op_addP opd_add (de_callB (call_sumA rfl) calld_sum Γ.n_sum boot_sum (da_cons (de_var 2) da_nil)) (de_callTy call_intA calld_int Γ.n_int boot_int (da_cons (de_fn (ok_is_due Γ) (hr.mono (by decide)) Γ.m_is_due Γ.F_is_due.kp Γ.b_is_due pass0 (da_cons (de_var 0) (da_cons (de_var 2) da_nil))) da_nil))))))))))
theorem ok_fewest (Γ : Facts K mg) : FnOk P w K mg base CX0 3 Γ.f_fewest Γ.fd_fewest ["version", "target"] (spP K f_fewest) := fn_P Γ.F_fewest sc_fewest rfl rfl (body_fewest Γ)
theorem sc_each_at : GScope ["version", "number", "layer", "done", "known", "own", "command", "other", "key"] ["version", "number"] (defScope st_each_at) := ⟨rfl, rfl, rfl, by decide +kernel, rfl, by decide +kernel, by decide +kernel⟩
noncomputable def g_each_at : FGn :=
  ySeq (yPl (gSet 2 (xL (xLst (aCons (xVar 0) (aNil))))))
  (ySeq (yPl (gFor (iRange2 (aCons (xC (.int 1)) (aCons (xBin gAdd (xVar 1) (xC (.int 1))) (aNil)))) (kName 3)
    (gSeq (gNewN 4)
    (gSeq (gFor (iItems (xVar 2)) (kName 5)
      (gFor (iItems (xC c_COMMANDS)) (kName 6)
        (gSeq (gSet 7 (xFn f_raised (aCons (xVar 5) (aCons (xVar 6) (aNil)))))
        (gIf (tOf (xBin gEq (xFn f_fewest (aCons (xVar 0) (aCons (xVar 7) (aNil)))) (xVar 3)))
          (gSetN 4 (xFn f_rank (aCons (xVar 7) (aNil))) (xVar 7))
          (gNx)))))
    (gSet 2 (xL (xComp [8] (iItems (xL (xCallL gSortN (aCons (xVar 4) (aNil))))) (kName 8) (tTrue) (xBin gIxN (xVar 4) (xVar 8)))))))))
  (yFrom (xVar 2)))
noncomputable def f_each_at : FPL := callG g_each_at 9 2
theorem body_each_at (Γ : Facts K mg) : BodyG P w K mg base ["version", "number", "layer", "done", "known", "own", "command", "other", "key"] "each_at" (defScope st_each_at) Γ.f_each_at 3 (defBody st_each_at) g_each_at := fun cdv A outer s H E pn hr =>
  have hu : A.units + 3 + 64 < cLine := hr.units
  (dgb_cons (dgs_plain (ds_set 2 sc_each_at.nd (de_of_dl (dl_lst (da_cons (de_var 0) da_nil)))))
  (dgb_cons (dgs_plain (ds_for PassesOwn.never rfl (di_range2 Γ.n_range (da_cons de_int (da_cons (de_bin op_addP opd_add (de_var 1) de_int) da_nil))) (dg_name 3 sc_each_at.nd)
    (db_cons (ds_newN 4 sc_each_at.nd)
    (db_cons (ds_for PassesOwn.never rfl (di_seq (de_var 2)) (dg_name 5 sc_each_at.nd)
      (db_one (ds_for PassesOwn.never rfl (di_seq (de_glob Γ.c_COMMANDS)) (dg_name 6 sc_each_at.nd)
        (db_cons (ds_set 7 sc_each_at.nd (de_fn (ok_raised Γ) (hr.mono (by decide)) Γ.m_raised Γ.F_raised.kp Γ.b_raised pass0 (da_cons (de_var 5) (da_cons (de_var 6) da_nil))))
        (db_one (ds_if (dt_cmp (op_eqP hu) (opd_bool gEq_bool) (de_fn (ok_fewest Γ) (hr.mono (by decide)) Γ.m_fewest Γ.F_fewest.kp Γ.b_fewest pass0 (da_cons (de_var 0) (da_cons (de_var 7) da_nil))) (de_var 3) (nomark _))
          (db_one (ds_setN 4 (lt_u1 hu) (de_fn (ok_rank Γ) (hr.mono (by decide)) Γ.m_rank Γ.F_rank.kp Γ.b_rank pass0 (da_cons (de_var 7) da_nil)) (de_var 7)))
          db_nil))))))
    (db_one (ds_setC 2 [("key", 8)] sc_each_at.nd (di_seq (de_of_dl (dl_callB (cr_sortN rfl hu) calll_sortN Γ.n_sorted boot_sorted (da_cons (de_var 4) da_nil)))) (blkOk_by (by kernel_rfl)) (by decide) (fun _ _ _ _ _ => (dg_name 8 sc_each_at.nd)) (fun _ _ _ _ _ => dts_nil) (fun _ _ _ _ _ => (de_ixN hu (de_var 4) (de_var 8)))))))))
  (dgb_one (dgs_from rfl (de_var 2)))))
theorem ok_each_at (Γ : Facts K mg) : GFn1 P w K mg base 4 Γ.f_each_at f_each_at := gfn_P Γ.F_each_at sc_each_at rfl rfl (body_each_at Γ) Γ.b_each_at
theorem sc__law_key : FnScope ["version", "a", "b", "c", "p"] ["version"] (defScope st__law_key) := ⟨rfl, rfl, rfl, by decide +kernel, rfl, by decide +kernel, by decide +kernel⟩
noncomputable def g__law_key : FS :=
  gSeq (gAsg (xVar 0) (kTup [1, 2, 3, 4]))
  (gRet (xTup (aCons (xVar 1) (aCons (xVar 2) (aCons (xVar 3) (aCons (xIf (tOf (xBin gIs (xVar 4) (xC .none))) (xBin gPow (xC (.int 10)) (xC (.int 9))) (xVar 4)) (aNil)))))))
noncomputable def f__law_key : FP := callP g__law_key 5 1
theorem body__law_key (Γ : Facts K mg) : BodyOk P w K mg base CX0 ["version", "a", "b", "c", "p"] "_law_key" (defScope st__law_key) Γ.f__law_key 0 (defBody st__law_key) g__law_key := fun cdv A outer s H E hr =>
  have hu : A.units + 3 + 64 < cLine := hr.units
  (db_cons (ds_asg (de_var 0) (dg_tup rfl (dgs_cons 1 sc__law_key.nd (dgs_cons 2 sc__law_key.nd (dgs_cons 3 sc__law_key.nd (dgs_cons 4 sc__law_key.nd dgs_nil))))))
  (db_one (ds_ret (de_tup (da_cons (de_var 1) (da_cons (de_var 2) (da_cons (de_var 3) (da_cons (de_if (dt_cmp op_isP (opd_bool gIs_bool) (de_var 4) de_non (nomark _)) (de_bin op_pow opd_pow de_int de_int) (de_var 4)) da_nil))))))))
theorem ok__law_key (Γ : Facts K mg) : FnOk P w K mg base CX0 1 Γ.f__law_key Γ.fd__law_key ["version"] (spP K f__law_key) := fn_P Γ.F__law_key sc__law_key rfl rfl (body__law_key Γ)
theorem sc_law : FnScope ["script", "tape", "turn", "version", "number", "layer", "due", "pair", "own"] ["script"] (defScope st_law) := ⟨rfl, rfl, rfl, by decide +kernel, rfl, by decide +kernel, by decide +kernel⟩
noncomputable def g_law : FS :=
  gSeq (gFor (iRange1 (aCons (xC (.int 3)) (aNil))) (kName 2)
    (gSeq (gSet 3 (xFnT f__law_version (aCons (xVar 1) (aNil))))
    (gFor (iEnumD (aCons (xL (xFnL f__law_layers (aCons (xVar 3) (aCons (xC (.int 4)) (aNil))))) (aNil))) (kTup [4, 5])
      (gSeq (gSet 6 (xL (xComp [7] (iItems (xL (xCallL gSortF (aCons (xL (xComp [8] (iKeysD (xVar 5)) (kName 8) (tTrue) (xTup (aCons (xFn f__law_key (aCons (xVar 8) (aNil))) (aCons (xVar 8) (aNil)))))) (aNil))))) (kName 7) (tTrue) (xBin gIx (xVar 7) (xC (.int 1))))))
      (gSeq (gIf (tNot (tOf (xFn (f__law_like 6) (aCons (xFn f_count_at (aCons (xVar 3) (aCons (xVar 4) (aNil)))) (aCons (xCall gLen (aCons (xVar 6) (aNil))) (aNil))))))
        (gRet (xC (.bool false)))
        (gNx))
      (gIf (tOr (tOf (xBin gNe (xL (xFnL f_each_at (aCons (xVar 3) (aCons (xVar 4) (aNil))))) (xVar 6))) (tOf (xBin gNe (xL (xFnL f_each_at (aCons (xVar 3) (aCons (xVar 4) (aNil))))) (xVar 6))))
        (gRet (xC (.bool false)))
        (gNx)))))))
  (gRet (xBin gEq (xCall gLen (aCons (xL (xFnL f_each_at (aCons (xTup (aCons (xC (.int 1)) (aCons (xC (.int 4)) (aCons (xC (.int 2)) (aCons (xC .none) (aNil)))))) (aCons (xC (.int 6)) (aNil))))) (aNil))) (xFn f_count_at (aCons (xTup (aCons (xC (.int 1)) (aCons (xC (.int 4)) (aCons (xC (.int 2)) (aCons (xC .none) (aNil)))))) (aCons (xC (.int 6)) (aNil))))))
theorem body_law (Γ : Facts K mg) : BodyOk P w K mg base CX0 ["script", "tape", "turn", "version", "number", "layer", "due", "pair", "own"] "law" (defScope st_law) Γ.f_law 7 ((defBody st_law).drop 1) g_law := fun cdv A outer s H E hr =>
  have hu : A.units + 3 + 64 < cLine := hr.units
  (db_cons (ds_for PassesOwn.never rfl (di_range1 Γ.n_range (da_cons de_int da_nil)) (dg_name 2 sc_law.nd)
    (db_cons (ds_set 3 sc_law.nd (de_fnT (ok__law_version Γ) (hr.mono (by decide)) Γ.m__law_version Γ.F__law_version.kp Γ.b__law_version pass0 (da_cons (de_var 1) da_nil)))
    (db_one (ds_for PassesOwn.never rfl (di_enum Γ.n_enumerate (da_cons (de_of_dl (dl_fn (ok__law_layers Γ) (hr.mono (by decide)) Γ.m__law_layers Γ.F__law_layers.kp Γ.b__law_layers pass0 (da_cons (de_var 3) (da_cons de_int da_nil)))) da_nil)) (dg_tup rfl (dgs_cons 4 sc_law.nd (dgs_cons 5 sc_law.nd dgs_nil)))
      (db_cons (ds_setC 6 [("pair", 7)] sc_law.nd (di_seq (de_of_dl (dl_callB (cr_sortF hu) calll_sortF Γ.n_sorted boot_sorted (da_cons (de_of_dl (dl_comp [("own", 8)] sc_law.nd (di_keys (de_var 5)) (blkOk_by (by kernel_rfl)) (by decide) (fun _ _ _ _ _ => (dg_name 8 sc_law.nd)) (fun _ _ _ _ _ => dts_nil) (fun _ _ _ _ _ => (de_tup (da_cons (de_fn (ok__law_key Γ) (hr.mono (by decide)) Γ.m__law_key Γ.F__law_key.kp Γ.b__law_key pass0 (da_cons (de_var 8) da_nil)) (da_cons (de_var 8) da_nil)))))) da_nil)))) (blkOk_by (by kernel_rfl)) (by decide) (fun _ _ _ _ _ => (dg_name 7 sc_law.nd)) (fun _ _ _ _ _ => dts_nil) (fun _ _ _ _ _ => (de_ix (de_var 7) de_int)))
      (db_cons (ds_if (dt_not (dt_val (de_fn (ok__law_like Γ 6) (hr.mono (by decide)) Γ.m__law_like Γ.F__law_like.kp Γ.b__law_like pass0 (da_cons (de_fn (ok_count_at Γ) (hr.mono (by decide)) Γ.m_count_at Γ.F_count_at.kp Γ.b_count_at pass0 (da_cons (de_var 3) (da_cons (de_var 4) da_nil))) (da_cons (de_callB call_len calld_len Γ.n_len boot_len (da_cons (de_var 6) da_nil)) da_nil)))))
        (db_one (ds_ret de_bl))
        db_nil)
      (db_one (ds_if (dt_w (dw_or (dt_cmp (op_neP hu) (opd_bool gNe_bool) (de_of_dl (dl_compG [("own", 8)] sc_law.nd (blkOk_by (by kernel_rfl)) (by kernel_rfl) (ok_each_at Γ) (hr.mono (by decide)) Γ.m_each_at Γ.F_each_at.kp (da_cons (de_var 3) (da_cons (de_var 4) da_nil)))) (de_var 6) (nomark _)) (dw_or1 (dt_cmp (op_neP hu) (opd_bool gNe_bool) (de_of_dl (dl_listG (ok_each_at Γ) (hr.mono (by decide)) Γ.m_each_at Γ.F_each_at.kp Γ.n_list (da_cons (de_var 3) (da_cons (de_var 4) da_nil)))) (de_var 6) (nomark _)))))
        (db_one (ds_ret de_bl))
        db_nil))))))))
  (db_one (ds_ret (de_cmp (op_eqP hu) (opd_bool gEq_bool) (de_callB call_len calld_len Γ.n_len boot_len (da_cons (de_of_dl (dl_listG (ok_each_at Γ) (hr.mono (by decide)) Γ.m_each_at Γ.F_each_at.kp Γ.n_list (da_cons (de_tup (da_cons de_int (da_cons de_int (da_cons de_int (da_cons de_non da_nil))))) (da_cons de_int da_nil)))) da_nil)) (de_fn (ok_count_at Γ) (hr.mono (by decide)) Γ.m_count_at Γ.F_count_at.kp Γ.b_count_at pass0 (da_cons (de_tup (da_cons de_int (da_cons de_int (da_cons de_int (da_cons de_non da_nil))))) (da_cons de_int da_nil))) (nomark _)))))
theorem ok_law (Γ : Facts K mg) (hg : ∀ ns : List Int, ns.length ≤ 63 → ∃ e, g_law (startLaw 9 ns) = some (.rt (.d (.bool true)), e)) : FnOk P w K mg base CX0 8 Γ.f_law Γ.fd_law ["script"] (spLaw K) :=
  fn_law Γ.F_law sc_law rfl (by decide) (fun cdv A outer s H E => ps_set (i := 1) sc_law.nd rfl (by first | exact Or.inl rfl | exact Or.inr rfl) (pe_lst (pa_cons (pe_callTy call_list_of rfl Γ.n_list boot_list (pa_cons (pe_var (i := 0) rfl (by first | exact Or.inl rfl | exact Or.inr (Or.inl rfl))) pa_nil)) (pa_cons pe_int (pa_cons pe_int pa_nil))))) (body_law Γ) hg
end
def d__law_draw : He.DefD := ⟨("_law_draw", none), "_law_draw", "_law_draw", defArgs st__law_draw, defBody st__law_draw, defScope st__law_draw, [], []⟩
def d__law_number : He.DefD := ⟨("_law_number", none), "_law_number", "_law_number", defArgs st__law_number, defBody st__law_number, defScope st__law_number, [], []⟩
def d__law_version : He.DefD := ⟨("_law_version", none), "_law_version", "_law_version", defArgs st__law_version, defBody st__law_version, defScope st__law_version, [], []⟩
def d_is_due : He.DefD := ⟨("is_due", none), "is_due", "is_due", defArgs st_is_due, defBody st_is_due, defScope st_is_due, [], []⟩
def d_releases : He.DefD := ⟨("releases", none), "releases", "releases", defArgs st_releases, defBody st_releases, defScope st_releases, [], []⟩
def d_count_at : He.DefD := ⟨("count_at", none), "count_at", "count_at", defArgs st_count_at, defBody st_count_at, defScope st_count_at, [], []⟩
def d__law_commands : He.DefD := ⟨("_law_commands", none), "_law_commands", "_law_commands", defArgs st__law_commands, defBody st__law_commands, defScope st__law_commands, [], []⟩
def d__law_step : He.DefD := ⟨("_law_step", none), "_law_step", "_law_step", defArgs st__law_step, defBody st__law_step, defScope st__law_step, [], []⟩
def d__law_layers : He.DefD := ⟨("_law_layers", none), "_law_layers", "_law_layers", defArgs st__law_layers, defBody st__law_layers, defScope st__law_layers, [], []⟩
def d__law_like : He.DefD := ⟨("_law_like", none), "_law_like", "_law_like", defArgs st__law_like, defBody st__law_like, defScope st__law_like, [], []⟩
def d_raised : He.DefD := ⟨("raised", none), "raised", "raised", defArgs st_raised, defBody st_raised, defScope st_raised, [], []⟩
def d_raises : He.DefD := ⟨("raises", none), "raises", "raises", defArgs st_raises, defBody st_raises, defScope st_raises, [], []⟩
def d_rank : He.DefD := ⟨("rank", none), "rank", "rank", defArgs st_rank, defBody st_rank, defScope st_rank, [], []⟩
def d_compare : He.DefD := ⟨("compare", none), "compare", "compare", defArgs st_compare, defBody st_compare, defScope st_compare, [], []⟩
def d_fewest : He.DefD := ⟨("fewest", none), "fewest", "fewest", defArgs st_fewest, defBody st_fewest, defScope st_fewest, [], []⟩
def d_each_at : He.DefD := ⟨("each_at", none), "each_at", "each_at", defArgs st_each_at, defBody st_each_at, defScope st_each_at, [], []⟩
def d__law_key : He.DefD := ⟨("_law_key", none), "_law_key", "_law_key", defArgs st__law_key, defBody st__law_key, defScope st__law_key, [], []⟩
def d_law : He.DefD := ⟨("law", none), "law", "law", defArgs st_law, defBody st_law, defScope st_law, [], []⟩
def fnL : List He.DefD := [d__law_draw, d__law_number, d__law_version, d_is_due, d_releases, d_count_at, d__law_commands, d__law_step, d__law_layers, d__law_like, d_raised, d_raises, d_rank, d_compare, d_fewest, d_each_at, d__law_key, d_law]
def faL : List He.Fa := [.glo "_law_draw", .glo "_law_number", .glo "_law_version", .glo "is_due", .glo "releases", .glo "count_at", .glo "_law_commands", .glo "_law_step", .glo "_law_layers", .glo "_law_like", .glo "raised", .glo "raises", .glo "rank", .glo "compare", .glo "fewest", .glo "each_at", .glo "_law_key", .glo "law", .free "bool", .free "enumerate", .free "int", .free "isinstance", .free "len", .free "list", .free "range", .free "sorted", .free "sum", .free "tuple"]
abbrev R : PySem.W.OpenRow := PySem.W.OpenLaw.row PySem.Challenge.rw_versionbumps_k11_whole_versions_so_many
def csL : List (Str × D) := [("COMMANDS", c_COMMANDS)]
abbrev hk : PySem.W.Hook := hookC 4 faL fnL csL
def ob (s : PySem.W.SharedT) : AlC := obsCG 4 faL fnL csL (HandSHeadRun.getT s)
theorem ob_eq (s : PySem.W.SharedT) : ob s = hk.obs s.abs := obsCG_eq (HandSHeadRun.getT_eq s)
theorem run (w : World) : HandSHeadRun.RunEq R (PySem.W.view R.prog [23]) hk ob 4000 ["raised", "rank", "compare", "raises", "is_due", "fewest", "releases", "count_at", "each_at", "_law_draw", "_law_like", "_law_number", "_law_version", "_law_commands", "_law_step", "_law_key", "_law_layers", "COMMANDS"] w := by
  intro os
  kernel_rfl
theorem facts {P : Program} {w : World} {K : PySem.W.Frag} {h : Heap} {mg : Str → Option Value} {f : Addr} (X : K.In h) (G : h.Ns mainGlobals mg) (hfa : mg ("law" : Str) = some (.ref f)) (c0 : SaysC faL fnL csL K) (hg : ∀ ns : List Int, ns.length ≤ 63 → ∃ e, g_law (startLaw 9 ns) = some (.rt (.d (.bool true)), e)) :
    ∃ fd : FuncData, (∀ (s : Shared) (v : Value), BindsTo s fd ⟨[v], []⟩ [("script", v)]) ∧ ∀ base : Heap, K.In base → base.Ns mainGlobals mg → FnOk P w K mg base CX0 8 f fd ["script"] (spLaw K) := by
  have c : He.SaysD faL fnL K := SaysC.d c0
  obtain ⟨fd0, F0⟩ := c.def_ 0 (d := d__law_draw) rfl
  obtain ⟨fd1, F1⟩ := c.def_ 1 (d := d__law_number) rfl
  obtain ⟨fd2, F2⟩ := c.def_ 2 (d := d__law_version) rfl
  obtain ⟨fd3, F3⟩ := c.def_ 3 (d := d_is_due) rfl
  obtain ⟨fd4, F4⟩ := c.def_ 4 (d := d_releases) rfl
  obtain ⟨fd5, F5⟩ := c.def_ 5 (d := d_count_at) rfl
  obtain ⟨fd6, F6⟩ := c.def_ 6 (d := d__law_commands) rfl
  obtain ⟨fd7, F7⟩ := c.def_ 7 (d := d__law_step) rfl
  obtain ⟨fd8, F8⟩ := c.def_ 8 (d := d__law_layers) rfl
  obtain ⟨fd9, F9⟩ := c.def_ 9 (d := d__law_like) rfl
  obtain ⟨fd10, F10⟩ := c.def_ 10 (d := d_raised) rfl
  obtain ⟨fd11, F11⟩ := c.def_ 11 (d := d_raises) rfl
  obtain ⟨fd12, F12⟩ := c.def_ 12 (d := d_rank) rfl
  obtain ⟨fd13, F13⟩ := c.def_ 13 (d := d_compare) rfl
  obtain ⟨fd14, F14⟩ := c.def_ 14 (d := d_fewest) rfl
  obtain ⟨fd15, F15⟩ := c.def_ 15 (d := d_each_at) rfl
  obtain ⟨fd16, F16⟩ := c.def_ 16 (d := d__law_key) rfl
  obtain ⟨fd17, F17⟩ := c.def_ 17 (d := d_law) rfl
  have e := hfa.symm.trans (He.glo_ok X G (c.fact 17 (f := .glo "law") rfl))
  cases e
  let Γ : Facts K mg := {
    f__law_draw := _, fd__law_draw := fd0, F__law_draw := F0, m__law_draw := He.glo_ok X G (c.fact 0 (f := .glo "_law_draw") rfl), b__law_draw := F0.bindsN fun _ _ _ _ _ _ us hl => match us, hl with | [_, _], _ => rfl,
    f__law_number := _, fd__law_number := fd1, F__law_number := F1, m__law_number := He.glo_ok X G (c.fact 1 (f := .glo "_law_number") rfl), b__law_number := F1.bindsN fun _ _ _ _ _ _ us hl => match us, hl with | [_], _ => rfl,
    f__law_version := _, fd__law_version := fd2, F__law_version := F2, m__law_version := He.glo_ok X G (c.fact 2 (f := .glo "_law_version") rfl), b__law_version := F2.bindsN fun _ _ _ _ _ _ us hl => match us, hl with | [_], _ => rfl,
    f_is_due := _, fd_is_due := fd3, F_is_due := F3, m_is_due := He.glo_ok X G (c.fact 3 (f := .glo "is_due") rfl), b_is_due := F3.bindsN fun _ _ _ _ _ _ us hl => match us, hl with | [_, _], _ => rfl,
    f_releases := _, fd_releases := fd4, F_releases := F4, m_releases := He.glo_ok X G (c.fact 4 (f := .glo "releases") rfl), b_releases := F4.bindsN fun _ _ _ _ _ _ us hl => match us, hl with | [_, _], _ => rfl,
    f_count_at := _, fd_count_at := fd5, F_count_at := F5, m_count_at := He.glo_ok X G (c.fact 5 (f := .glo "count_at") rfl), b_count_at := F5.bindsN fun _ _ _ _ _ _ us hl => match us, hl with | [_, _], _ => rfl,
    f__law_commands := _, fd__law_commands := fd6, F__law_commands := F6, m__law_commands := He.glo_ok X G (c.fact 6 (f := .glo "_law_commands") rfl), b__law_commands := F6.bindsN fun _ _ _ _ _ _ us hl => match us, hl with | [], _ => rfl,
    f__law_step := _, fd__law_step := fd7, F__law_step := F7, m__law_step := He.glo_ok X G (c.fact 7 (f := .glo "_law_step") rfl), b__law_step := F7.bindsN fun _ _ _ _ _ _ us hl => match us, hl with | [_, _], _ => rfl,
    f__law_layers := _, fd__law_layers := fd8, F__law_layers := F8, m__law_layers := He.glo_ok X G (c.fact 8 (f := .glo "_law_layers") rfl), b__law_layers := F8.bindsN fun _ _ _ _ _ _ us hl => match us, hl with | [_, _], _ => rfl,
    f__law_like := _, fd__law_like := fd9, F__law_like := F9, m__law_like := He.glo_ok X G (c.fact 9 (f := .glo "_law_like") rfl), b__law_like := F9.bindsN fun _ _ _ _ _ _ us hl => match us, hl with | [_, _], _ => rfl,
    f_raised := _, fd_raised := fd10, F_raised := F10, m_raised := He.glo_ok X G (c.fact 10 (f := .glo "raised") rfl), b_raised := F10.bindsN fun _ _ _ _ _ _ us hl => match us, hl with | [_, _], _ => rfl,
    f_raises := _, fd_raises := fd11, F_raises := F11, m_raises := He.glo_ok X G (c.fact 11 (f := .glo "raises") rfl), b_raises := F11.bindsN fun _ _ _ _ _ _ us hl => match us, hl with | [_, _], _ => rfl,
    f_rank := _, fd_rank := fd12, F_rank := F12, m_rank := He.glo_ok X G (c.fact 12 (f := .glo "rank") rfl), b_rank := F12.bindsN fun _ _ _ _ _ _ us hl => match us, hl with | [_], _ => rfl,
    f_compare := _, fd_compare := fd13, F_compare := F13, m_compare := He.glo_ok X G (c.fact 13 (f := .glo "compare") rfl), b_compare := F13.bindsN fun _ _ _ _ _ _ us hl => match us, hl with | [_, _], _ => rfl,
    f_fewest := _, fd_fewest := fd14, F_fewest := F14, m_fewest := He.glo_ok X G (c.fact 14 (f := .glo "fewest") rfl), b_fewest := F14.bindsN fun _ _ _ _ _ _ us hl => match us, hl with | [_, _], _ => rfl,
    f_each_at := _, fd_each_at := fd15, F_each_at := F15, m_each_at := He.glo_ok X G (c.fact 15 (f := .glo "each_at") rfl), b_each_at := F15.bindsN fun _ _ _ _ _ _ us hl => match us, hl with | [_, _], _ => rfl,
    f__law_key := _, fd__law_key := fd16, F__law_key := F16, m__law_key := He.glo_ok X G (c.fact 16 (f := .glo "_law_key") rfl), b__law_key := F16.bindsN fun _ _ _ _ _ _ us hl => match us, hl with | [_], _ => rfl,
    f_law := _, fd_law := fd17, F_law := F17, m_law := He.glo_ok X G (c.fact 17 (f := .glo "law") rfl), b_law := F17.bindsN fun _ _ _ _ _ _ us hl => match us, hl with | [_], _ => rfl,
    n_bool := He.free_ok X G (c.fact 18 (f := .free "bool") rfl),
    n_enumerate := He.free_ok X G (c.fact 19 (f := .free "enumerate") rfl),
    n_int := He.free_ok X G (c.fact 20 (f := .free "int") rfl),
    n_isinstance := He.free_ok X G (c.fact 21 (f := .free "isinstance") rfl),
    n_len := He.free_ok X G (c.fact 22 (f := .free "len") rfl),
    n_list := He.free_ok X G (c.fact 23 (f := .free "list") rfl),
    n_range := He.free_ok X G (c.fact 24 (f := .free "range") rfl),
    n_sorted := He.free_ok X G (c.fact 25 (f := .free "sorted") rfl),
    n_sum := He.free_ok X G (c.fact 26 (f := .free "sum") rfl),
    n_tuple := He.free_ok X G (c.fact 27 (f := .free "tuple") rfl),
    c_COMMANDS := SaysC.con X G c0 0 }
  have b := FunD.bindsA (ps := ["script"]) F17 fun _ _ _ _ _ _ us hl => match us, hl with | [_], _ => rfl
  exact ⟨_, fun s v => b s [v] rfl, fun base _ _ => ok_law Γ hg⟩
end Wk11

namespace Wk11
open DD PySem PySem.Spec PyProof.Rows L2
local macro_rules | `(tactic| infer_instance) => `(tactic| first
  | ((with_reducible refine dRX ?_); first
      | ((with_reducible apply rx_v); rfl)
      | with_reducible refine rx_c ?_
      | with_reducible refine rx_bin ?_
      | ((with_reducible apply rx_tp); rfl; rfl; rfl)
      | with_reducible refine rx_call ?_
      | with_reducible refine rx_callT' ?_
      | with_reducible refine rx_b ?_
      | with_reducible refine rx_tup ?_
      | with_reducible refine rx_l ?_
      | ((with_reducible apply rx_vt); rfl)
      | ((with_reducible apply rx_vo); rfl)
      | ((with_reducible apply rx_vk); rfl)
      | with_reducible refine rx_getN ?_
      | with_reducible refine rx_if ?_
      | with_reducible refine rx_and ?_
      | with_reducible refine rx_or ?_
      | with_reducible refine rx_isiV ?_
      | with_reducible refine rx_sl ?_
      | with_reducible refine rx_un ?_
      | with_reducible refine rx_part ?_
      | with_reducible refine rx_chain ?_
      | with_reducible refine rx_repl ?_
      | with_reducible refine rx_join ?_
      | with_reducible refine rx_f3 ?_
      | with_reducible refine rx_revS ?_)
  | ((with_reducible refine dRD ?_); first
      | with_reducible refine rd_d ?_
      | ((with_reducible apply rd_o); rfl)
      | ((with_reducible apply rd_k); rfl))
  | ((with_reducible refine dRA ?_); first
      | with_reducible refine ra_c ?_
      | with_reducible refine ra_n ?_
      | with_reducible refine ra_star ?_)
  | ((with_reducible refine dRDs ?_); first
      | with_reducible refine rds_c ?_
      | with_reducible refine rds_n ?_
      | with_reducible refine rds_m ?_)
  | ((with_reducible refine dFZ ?_); first
      | with_reducible refine fz_d ?_
      | ((with_reducible apply fz_o); rfl)
      | ((with_reducible apply fz_k); rfl))
  | ((with_reducible refine dFZs ?_); first
      | with_reducible refine fzs_c ?_
      | with_reducible refine fzs_n ?_
      | with_reducible refine fzs_m ?_)
  | ((with_reducible refine dRS ?_); first
      | with_reducible refine rs_seq ?_
      | with_reducible refine rs_set ?_
      | with_reducible refine rs_if ?_
      | with_reducible refine rs_nx ?_
      | with_reducible refine rs_ret ?_
      | with_reducible refine rs_retL ?_
      | ((with_reducible apply rs_aug); rfl)
      | with_reducible refine rs_asg ?_
      | with_reducible refine rs_par ?_
      | with_reducible refine rs_par3 ?_
      | with_reducible refine rs_parO ?_
      | with_reducible refine rs_stF ?_
      | with_reducible refine rs_stR ?_
      | with_reducible refine rs_ist ?_
      | ((with_reducible apply rs_popAt); rfl)
      | ((with_reducible apply rs_ins); rfl)
      | with_reducible refine rs_tp ?_
      | with_reducible refine rs_for ?_
      | with_reducible refine rs_match ?_
      | with_reducible refine rs_mstr ?_
      | with_reducible refine rs_many ?_
      | with_reducible refine rs_own ?_
      | with_reducible refine rs_newN ?_
      | with_reducible refine rs_setN ?_
      | ((with_reducible apply rs_init); rfl; rfl)
      | with_reducible refine rs_drop ?_
      | with_reducible refine rs_bk ?_
      | with_reducible refine rs_ct ?_)
  | ((with_reducible refine dNX ?_); first
      | with_reducible refine nx_nx ?_
      | with_reducible refine nx_rt ?_
      | with_reducible refine nx_rtL ?_
      | with_reducible refine nx_bk ?_
      | with_reducible refine nx_ct ?_)
  | ((with_reducible refine dLX ?_); first
      | with_reducible refine lx_nx ?_
      | with_reducible refine lx_ct ?_
      | with_reducible refine lx_bk ?_
      | with_reducible refine lx_rt ?_
      | with_reducible refine lx_rtL ?_)
  | ((with_reducible refine dRT ?_); first
      | with_reducible refine rt_of ?_
      | with_reducible refine rt_not ?_
      | with_reducible refine rt_and ?_
      | with_reducible refine rt_or ?_
      | with_reducible refine rt_true ?_)
  | ((with_reducible refine dRL ?_); first
      | with_reducible refine rl_lst ?_
      | with_reducible refine rl_bin ?_
      | with_reducible refine rl_comp ?_
      | with_reducible refine rl_compN ?_
      | with_reducible refine rl_items ?_
      | with_reducible refine rl_range1 ?_
      | with_reducible refine rl_range2 ?_
      | with_reducible refine rl_zip ?_
      | with_reducible refine rl_enum ?_
      | with_reducible refine rl_str ?_
      | with_reducible refine rl_rev ?_
      | with_reducible refine rl_keys ?_
      | with_reducible refine rl_split ?_
      | with_reducible refine rl_call ?_
      | with_reducible refine rl_b ?_
      | with_reducible refine rl_sl ?_)
  | ((with_reducible refine dO2 ?_); first
      | with_reducible refine o_add ?_
      | ((with_reducible apply o_ixT); rfl)
      | ((with_reducible apply o_ixL); rfl)
      | with_reducible refine o_eq ?_
      | with_reducible refine o_ne ?_
      | with_reducible refine o_lt ?_
      | with_reducible refine o_gt ?_
      | with_reducible refine o_le ?_
      | with_reducible refine o_ge ?_
      | with_reducible refine o_sub ?_
      | ((with_reducible refine o_mul1 ?_ ?_ ?_); omega; omega)
      | ((with_reducible refine o_mul2 ?_ ?_ ?_); omega; omega)
      | ((with_reducible refine o_fdiv ?_ ?_ ?_); omega; omega)
      | ((with_reducible refine o_mod ?_ ?_); omega)
      | ((with_reducible refine o_pow ?_ ?_); decide)
      | with_reducible refine o_is ?_
      | with_reducible refine o_isn ?_
      | with_reducible refine o_isb ?_
      | with_reducible refine o_eqNN ?_
      | with_reducible refine o_eqNI ?_
      | with_reducible refine o_eqIN ?_
      | with_reducible refine o_neNN ?_
      | with_reducible refine o_neNI ?_
      | with_reducible refine o_neIN ?_
      | with_reducible refine o_eqB ?_
      | with_reducible refine o_eqS ?_
      | with_reducible refine o_neS ?_
      | with_reducible refine o_inS ?_
      | with_reducible refine o_neB ?_)
  | ((with_reducible refine dO1 ?_); first
      | with_reducible refine o_neg ?_
      | with_reducible refine o_not ?_
      | with_reducible refine o_slT ?_)
  | ((with_reducible refine dC1 ?_); first
      | with_reducible refine c_intS ?_
      | with_reducible refine c_lenL ?_
      | with_reducible refine c_lenT ?_
      | with_reducible refine c_tupL ?_
      | with_reducible refine c_tupT ?_
      | with_reducible refine c_intI ?_
      | with_reducible refine c_max2 ?_
      | with_reducible refine c_min2 ?_)
  | ((with_reducible refine dIF ?_); first
      | with_reducible refine ifb_t ?_
      | with_reducible refine ifb_f ?_
      | with_reducible refine ifb_not ?_
      | with_reducible refine ifb_nt ?_
      | with_reducible refine ifb_ni ?_
      | with_reducible refine ifb_nit ?_
      | ((with_reducible refine ifb_dt ?_ ?_); omega)
      | ((with_reducible refine ifb_df ?_ ?_); omega)
      | ((with_reducible refine ifb_dt ?_ ?_); decide)
      | ((with_reducible refine ifb_bt ?_ ?_); decide)
      | ((with_reducible refine ifb_bf ?_ ?_); decide)
      | ((with_reducible refine ifb_df ?_ ?_); decide))
  | ((with_reducible refine dEx ?_); first
      | (with_reducible refine Exists.intro _ (And.intro rfl ?_))
      | ((with_reducible apply Exists.intro); (with_reducible apply Exists.intro); with_reducible refine And.intro rfl (And.intro rfl ?_)))
  | ((with_reducible refine dAnd ?_); first
      | ((with_reducible refine and_isD ?_ ?_); rfl)
      | ((with_reducible refine and_isD2 ?_ ?_); rfl)
      | ((with_reducible refine and_len ?_ ?_); rfl)
      | ((with_reducible refine and_ltn ?_ ?_); rfl)
      | ((with_reducible refine and_okR ?_ ?_ ?_); omega; omega)
      | ((with_reducible refine and_okR2 ?_ ?_ ?_ ?_ ?_); omega; omega; omega; omega)
      | (with_reducible refine And.intro rfl ?_))
  | with_reducible refine rg_name ?_
  | with_reducible refine rcn_for ?_
  | with_reducible refine rcn_emit ?_
  | with_reducible refine rcn_n ?_
  | with_reducible refine rcn_c ?_
  | with_reducible refine o_slL ?_
  | with_reducible refine par2 ?_
  | with_reducible refine par3 ?_
  | with_reducible refine sqd_l ?_
  | with_reducible refine sqd_t ?_
  | with_reducible refine wx_nx ?_
  | with_reducible refine wx_bk ?_
  | with_reducible refine wx_rt ?_
  | ((with_reducible refine o_repL ?_ ?_); exact ⟨by decide, by decide, by decide⟩)
  | with_reducible refine itm_l ?_ | with_reducible refine itm_t ?_ | with_reducible refine zpm_l ?_ | with_reducible refine zpm_t ?_
  | ((with_reducible apply rg_tup); rfl)
  | ((with_reducible apply tpw); rfl; rfl; rfl)
  | ((with_reducible refine isv_f ?_ ?_); rfl)
  | ((with_reducible refine isv_t ?_ ?_); rfl)
  | ((with_reducible refine o_addL ?_ ?_); exact Nat.le_of_ble_eq_true rfl)
  | with_reducible refine ro_n ?_
  | with_reducible refine ro_s ?_
  | with_reducible refine c_listL ?_
  | with_reducible refine c_listT ?_)

theorem draw (τ : Tp) (m : Int) (h : 0 < m) (h2 : m < 18446744073709551616) : ∃ d τ', f__law_draw τ [.int m] = some (d, τ') ∧ ∃ r : Int, d = .int r ∧ 0 ≤ r ∧ r < m := by
  refine callT_of (fun d _ => ∃ r : Int, d = .int r ∧ 0 ≤ r ∧ r < m) rfl ?_
  unfold g__law_draw
  refine rs_cut (fun e => e = ⟨[.tape, .d (.int m), .d (.int 2305843009213693951), .un, .un], some τ⟩) (by (repeat infer_instance); rfl) ?_
  rintro _ rfl
  refine rs_cut (fun e => ∃ x τ', e = ⟨[.tape, .d (.int m), .d (.int 2305843009213693951), x, .un], some τ'⟩) ?_ ?_
  · refine rs_if ?_
    repeat infer_instance
    refine ifb_d (fun _ => ?_) (fun _ => ?_)
    · refine rs_cut (fun e => e = ⟨[.tape, .d (.int m), .d (.int 2305843009213693951), .d (.int 0), .un], some τ⟩) (by (repeat infer_instance); rfl) ?_
      rintro _ rfl
      refine rs_cut (fun e => ∃ x : Int, e = ⟨[.tape, .d (.int m), .d (.int 2305843009213693951), .d (.int x), .un], some τ⟩) ?_ ?_
      · repeat infer_instance
        refine ifb_d (fun hl => ?_) (fun _ => ?_)
        · rw [List.length_map] at hl
          have hl' : 0 < τ.cells.length := by omega
          obtain ⟨x, hx⟩ := atI_mod (i := τ.pos) hl'
          repeat infer_instance
          rw [List.length_map]
          refine o_mod (by omega) ?_
          repeat infer_instance
          refine o_ixL hx ?_
          repeat infer_instance
          exact ⟨_, rfl⟩
        · repeat infer_instance
          exact ⟨_, rfl⟩
      rintro _ ⟨x, rfl⟩
      refine rs_cut (fun e => ∃ x : Int, e = ⟨[.tape, .d (.int m), .d (.int 2305843009213693951), .d (.int x), .un], some τ⟩) ?_ ?_
      · refine rs_if ?_
        repeat infer_instance
        refine ifb_d (fun _ => ?_) (fun _ => ?_)
        · repeat infer_instance
          exact ⟨_, rfl⟩
        · repeat infer_instance
          refine ifb_d (fun _ => ?_) (fun _ => ?_)
          · repeat infer_instance
            exact ⟨_, rfl⟩
          · repeat infer_instance
            exact ⟨_, rfl⟩
      rintro _ ⟨x, rfl⟩
      repeat infer_instance
      exact ⟨_, _, rfl⟩
    · repeat infer_instance
      exact ⟨_, _, rfl⟩
  rintro _ ⟨x, τ', rfl⟩
  repeat infer_instance
  exact ⟨Int.emod_nonneg _ (by omega), Int.emod_lt_of_pos _ h⟩
theorem ct_draw {τ : Tp} {m : Int} {K : D → Tp → Prop} (h : 0 < m) (h2 : m < 18446744073709551616) (k : ∀ (r : Int) τ', 0 ≤ r → r < m → K (.int r) τ') : CT f__law_draw τ [.int m] K := by
  obtain ⟨d, τ', h3, r, rfl, h4, h5⟩ := draw τ m h h2
  exact ⟨_, _, h3, k r τ' h4 h5⟩
local macro_rules | `(tactic| infer_instance) => `(tactic| ((with_reducible refine ct_draw ?_ ?_ ?_); omega; omega; intro r τ' h1 h2))

theorem number (τ : Tp) : ∃ d τ', f__law_number τ [] = some (d, τ') ∧ ∃ r : Int, d = .int r ∧ 0 ≤ r ∧ r < 1000 := by
  refine callT_of (fun d _ => ∃ r : Int, d = .int r ∧ 0 ≤ r ∧ r < 1000) rfl ?_
  unfold g__law_number
  repeat infer_instance
  refine o_ixLa (by omega) (by show _ < (5 : Int); omega) ?_
  refine all_c ?_ (all_c ?_ (all_c ?_ (all_c ?_ (all_c ?_ all_n))))
  all_goals exact ⟨_, _, rfl, rfl, _, rfl, by omega, by omega⟩
theorem ct_number {τ : Tp} {K : D → Tp → Prop} (k : ∀ (r : Int) τ', 0 ≤ r → r < 1000 → K (.int r) τ') : CT f__law_number τ [] K := by
  obtain ⟨d, τ', h3, r, rfl, h4, h5⟩ := number τ
  exact ⟨_, _, h3, k r τ' h4 h5⟩
local macro_rules | `(tactic| infer_instance) => `(tactic| ((with_reducible refine ct_number ?_); intro r τ' h1 h2))
theorem version (τ : Tp) : ∃ d τ', f__law_version τ [] = some (d, τ') ∧ ∃ (a b c : Int) (p : Option Int), d = vD a b c p ∧ (0 ≤ a ∧ a < 1000) ∧ (0 ≤ b ∧ b < 1000) ∧ (0 ≤ c ∧ c < 1000) ∧ pok p := by
  refine callT_of (fun d _ => ∃ (a b c : Int) (p : Option Int), d = vD a b c p ∧ (0 ≤ a ∧ a < 1000) ∧ (0 ≤ b ∧ b < 1000) ∧ (0 ≤ c ∧ c < 1000) ∧ pok p) rfl ?_
  unfold g__law_version
  refine rs_cut (fun e => ∃ p τ', pok p ∧ e = ⟨[.tape, .d (pd p)], some τ'⟩) ?_ ?_
  · repeat infer_instance
    refine o_ixLa (by omega) (by show _ < (5 : Int); omega) ?_
    refine all_c ?_ (all_c ?_ (all_c ?_ (all_c ?_ (all_c ?_ all_n))))
    · exact fz_d ⟨rfl, none, _, fun k h => (nomatch h), rfl⟩
    · exact fz_d ⟨rfl, none, _, fun k h => (nomatch h), rfl⟩
    · exact fz_d ⟨rfl, some 0, _, fun k h => by cases h; omega, rfl⟩
    · exact fz_d ⟨rfl, some _, _, fun k h => by cases h; omega, rfl⟩
    · exact fz_d ⟨rfl, some _, _, fun k h => by cases h; omega, rfl⟩
  rintro _ ⟨p, τ', hp, rfl⟩
  repeat infer_instance
  exact ⟨_, _, _, _, rfl, ⟨by assumption, by assumption⟩, ⟨by assumption, by assumption⟩, ⟨by assumption, by assumption⟩, hp⟩
theorem ct_version {τ : Tp} {K : D → Tp → Prop} (k : ∀ (a b c : Int) (p : Option Int) τ', (0 ≤ a ∧ a < 1000) → (0 ≤ b ∧ b < 1000) → (0 ≤ c ∧ c < 1000) → pok p → K (vD a b c p) τ') : CT f__law_version τ [] K := by
  obtain ⟨d, τ', h3, a, b, c, p, rfl, h4, h5, h6, h7⟩ := version τ
  exact ⟨_, _, h3, k a b c p τ' h4 h5 h6 h7⟩

theorem part_of (cm : C7) : (replOk cm.s "patch" && replOk (Txt.replace cm.s "prerelease" "patch") "") = true ∧ idxOf (Txt.replace (Txt.replace cm.s "prerelease" "patch") "pre" "") ["major", "minor", "patch"] = some cm.part := by
  cases cm <;> exact ⟨by decide +kernel, by decide +kernel⟩
theorem rx_partC {a : FX} {e : ES} {Q : Rv → ES → Prop} (k : RX a e fun r e1 => ∃ cm : C7, r = .d (.str cm.s) ∧ Q (.d (.int (cm.part : Nat))) e1) : RX (xPart ["major", "minor", "patch"] "prerelease" "patch" "pre" "" a) e Q := by
  obtain ⟨r, e1, h, cm, rfl, k⟩ := k
  exact rx_part ⟨_, e1, h, _, _, rfl, (part_of cm).1, (part_of cm).2, k⟩
local macro_rules | `(tactic| infer_instance) => `(tactic| with_reducible refine rx_partC ?_)
theorem str_len (cm : C7) : cm.s.length ≤ 16000000 := by cases cm <;> decide +kernel
theorem step_of (v : Ver) (cm : C7) : f__law_step [v.D, .str cm.s] = some (stepV v cm).D := by
  obtain ⟨a, b, c, p⟩ := v
  dsimp only [Ver.D]
  refine callP_of rfl ?_
  unfold g__law_step
  refine rs_cut (fun e => e = ⟨[.d (vD a b c p), .d (.str cm.s), .d (.int a), .d (.int b), .d (.int c), .d (pd p), .un, .un, .un], none⟩) (by (repeat infer_instance); rfl) ?_
  rintro _ rfl
  refine rs_cut (fun e => ∃ z0 z1, z0 = (decide (b = 0) && decide (c = 0)) ∧ z1 = decide (c = 0) ∧ e = ⟨[.d (vD a b c p), .d (.str cm.s), .d (.int a), .d (.int b), .d (.int c), .d (pd p), .d (.list [.bool z0, .bool z1, .bool true]), .un, .un], none⟩) ?_ ?_
  · by_cases hb : b = 0
    · have e1 : (decide (b = 0) && decide (c = 0)) = decide (c = 0) := by simp [hb]
      rw [e1]
      repeat infer_instance
      rfl
    · have e1 : (decide (b = 0) && decide (c = 0)) = false := by simp [hb]
      rw [e1]
      repeat infer_instance
      rfl
  rintro _ ⟨z0, z1, h0, h1, rfl⟩
  cases p with
  | none =>
    dsimp only [vD, pd]
    cases cm
    all_goals (repeat' first | infer_instance | (refine o_slS (str_len _) ?_) | (refine o_repL ⟨by decide, by decide, by decide⟩ ?_) | (refine ifb_c (fun _ => ?_) (fun _ => ?_)))
    all_goals rfl
  | some k =>
    dsimp only [vD, pd]
    cases cm
    all_goals (repeat' first | infer_instance | (refine o_slS (str_len _) ?_) | (refine o_repL ⟨by decide, by decide, by decide⟩ ?_) | (refine ifb_c (fun _ => ?_) (fun _ => ?_)))
    all_goals first | rfl | simp_all [stepV, outD, C7.part, C7.pre, Ver.zero, Ver.raise]
    trace_state

/-! dicts with versions as keys -/
def keyV (v : Ver) : VKey := [some v.a, some v.b, some v.c, v.p]
theorem keyV_inj {v w : Ver} (h : keyV v = keyV w) : v = w := by
  obtain ⟨a, b, c, p⟩ := v
  obtain ⟨a', b', c', p'⟩ := w
  unfold keyV at h
  simp only [List.cons.injEq, Option.some.injEq, and_true] at h
  obtain ⟨rfl, rfl, rfl, rfl⟩ := h
  rfl
theorem keyOf_V (v : Ver) : keyOf v.D = some (keyV v) := by
  obtain ⟨a, b, c, p⟩ := v
  cases p <;> rfl
theorem keyND_V (v : Ver) : keyND (keyV v) = v.D := by
  obtain ⟨a, b, c, p⟩ := v
  cases p <;> rfl
section
variable {α : Type} {f : α → D}
def kvD (f : α → D) (l : List (Ver × α)) : List (D × D) := l.map fun x => (x.1.D, f x.2)
def lookV (l : List (Ver × α)) (w : Ver) : Option α := (l.find? fun x => decide (x.1 = w)).map (·.2)
def putV (l : List (Ver × α)) (w : Ver) (d : α) : List (Ver × α) := if (lookV l w).isSome = true then l.map (fun x => if x.1 = w then (x.1, d) else x) else l ++ [(w, d)]
theorem look_kv (l : List (Ver × α)) (w : Ver) : lookK (kvD f l) (keyV w) = (lookV l w).map f := by
  unfold lookK lookV kvD
  induction l with
  | nil => rfl
  | cons x l ih =>
    rw [List.map_cons, List.find?_cons, List.find?_cons, keyOf_V]
    by_cases e : x.1 = w
    · rw [decide_eq_true e, decide_eq_true (by rw [e])]; rfl
    · rw [decide_eq_false e, decide_eq_false (fun z => e (keyV_inj (Option.some.inj z)))]; exact ih
theorem put_kv (l : List (Ver × α)) (w : Ver) (d : α) : putKv (kvD f l) w.D (keyV w) (f d) = kvD f (putV l w d) := by
  unfold putKv putV
  rw [look_kv, Option.isSome_map]
  split
  · unfold kvD
    rw [List.map_map, List.map_map]
    refine List.map_congr_left fun x _ => ?_
    dsimp only [Function.comp]
    rw [keyOf_V]
    by_cases e : x.1 = w
    · rw [if_pos (by rw [e]), if_pos e]
    · rw [if_neg (fun z => e (keyV_inj (Option.some.inj z))), if_neg e]
  · unfold kvD
    rw [List.map_append]; rfl
theorem kv_keysV (l : List (Ver × α)) : (kvD f l).map (·.1) = (l.map (·.1)).map Ver.D := by
  unfold kvD; rw [List.map_map, List.map_map]; rfl
theorem look_put (l : List (Ver × α)) (w u : Ver) (d : α) : lookV (putV l w d) u = if u = w then some d else lookV l u := by
  unfold putV
  split
  · rename_i h
    unfold lookV at h ⊢
    induction l with
    | nil => cases h
    | cons x l ih =>
      rw [List.map_cons, List.find?_cons]
      rw [List.find?_cons] at h ⊢
      by_cases e : x.1 = w
      · rw [if_pos e]
        by_cases f : x.1 = u
        · rw [decide_eq_true f]
          rw [if_pos (f.symm.trans e)]; rfl
        · have hu : u ≠ w := fun z => f (e.trans z.symm)
          rw [if_neg hu]
          rw [decide_eq_false f]
          dsimp only
          clear ih h
          induction l with
          | nil => rfl
          | cons y l ih =>
            rw [List.map_cons, List.find?_cons, List.find?_cons]
            by_cases g : y.1 = w
            · rw [if_pos g]
              dsimp only
              rw [decide_eq_false (fun z => hu (z.symm.trans g))]; exact ih
            · rw [if_neg g]
              by_cases f' : y.1 = u
              · rw [decide_eq_true f']
              · rw [decide_eq_false f']; exact ih
      · rw [if_neg e]
        rw [decide_eq_false e] at h
        by_cases f : x.1 = u
        · rw [decide_eq_true f, if_neg (fun z => e (f.trans z))]
        · rw [decide_eq_false f]; exact ih h
  · rename_i h
    unfold lookV at h ⊢
    rw [List.find?_append]
    by_cases e : u = w
    · subst e
      rw [if_pos rfl]
      cases q : l.find? fun x => decide (x.1 = u) with
      | none => rw [Option.none_or, List.find?_cons, decide_eq_true rfl]; rfl
      | some y => rw [q] at h; exact absurd rfl h
    · rw [if_neg e]
      cases q : l.find? fun x => decide (x.1 = u) with
      | none => rw [Option.none_or, List.find?_cons, decide_eq_false (fun z => e z.symm)]; rfl
      | some y => rfl
theorem put_len (l : List (Ver × α)) (w : Ver) (d : α) : (putV l w d).length ≤ l.length + 1 := by
  unfold putV
  split
  · rw [List.length_map]; omega
  · rw [List.length_append]; exact Nat.le_refl _
/-- keys that occur once -/
def nodK (l : List (Ver × α)) : Prop := (l.map (·.1)).Nodup
theorem look_none {l : List (Ver × α)} {w : Ver} : (lookV l w).isSome = true ↔ w ∈ l.map (·.1) := by
  unfold lookV
  rw [Option.isSome_map, List.find?_isSome]
  constructor
  · rintro ⟨x, m, e⟩
    exact List.mem_map.mpr ⟨x, m, of_decide_eq_true e⟩
  · intro h
    obtain ⟨x, m, e⟩ := List.mem_map.mp h
    exact ⟨x, m, decide_eq_true e⟩
theorem put_nod {l : List (Ver × α)} (h : nodK l) (w : Ver) (d : α) : nodK (putV l w d) := by
  unfold nodK putV at *
  split
  · rw [List.map_map]
    have : ((fun x : Ver × α => x.1) ∘ fun x => if x.1 = w then (x.1, d) else x) = fun x => x.1 := funext fun x => by
      dsimp only [Function.comp]; split <;> rfl
    rw [this]; exact h
  · rename_i g
    rw [List.map_append, List.nodup_append]
    refine ⟨h, by simp, fun a ha b hb => ?_⟩
    rw [List.map_cons, List.map_nil, List.mem_singleton] at hb
    subst hb
    exact fun e => g (look_none.mpr (by rw [← e]; exact ha))
theorem nod_look : ∀ {l : List (Ver × α)}, nodK l → ∀ {x : Ver × α}, x ∈ l → lookV l x.1 = some x.2
  | [], _, x, m => nomatch m
  | y :: l, h, x, m => by
    unfold nodK at h
    rw [List.map_cons, List.nodup_cons] at h
    unfold lookV
    rw [List.find?_cons]
    rcases List.mem_cons.mp m with rfl | m
    · rw [decide_eq_true rfl]; rfl
    · rw [decide_eq_false fun e => h.1 (by rw [e]; exact List.mem_map.mpr ⟨x, m, rfl⟩)]
      exact nod_look h.2 m
theorem look_mem {l : List (Ver × α)} {w : Ver} {n : α} (h : lookV l w = some n) : (w, n) ∈ l := by
  unfold lookV at h
  obtain ⟨x, h1, rfl⟩ := Option.map_eq_some_iff.mp h
  have h2 := List.find?_some h1
  have h3 := List.mem_of_find?_eq_some h1
  rw [← of_decide_eq_true h2]; exact h3
end

theorem commands_of : f__law_commands [] = some (scD all7) := by
  refine callL_of rfl ?_
  unfold g__law_commands
  repeat infer_instance
  rfl
def layC (seen : List (Ver × Bool)) (x : Ver × Int) (L : List (Ver × Int)) (cm : C7) : List (Ver × Int) := if (lookV seen (stepV x.1 cm)).isSome = true then L else putV L (stepV x.1 cm) ((lookV L (stepV x.1 cm)).getD 0 + x.2)
def layO (seen : List (Ver × Bool)) (L : List (Ver × Int)) (x : Ver × Int) : List (Ver × Int) := all7.foldl (layC seen x) L
def layF (seen : List (Ver × Bool)) (last : List (Ver × Int)) : List (Ver × Int) := last.foldl (layO seen) []
def seeF (seen : List (Ver × Bool)) (L : List (Ver × Int)) : List (Ver × Bool) := L.foldl (fun s x => putV s x.1 true) seen
theorem fold_len {α β : Type} (f : List α → β → List α) (k : Nat) (h : ∀ L x, (f L x).length ≤ L.length + k) : ∀ (xs : List β) (L : List α), (xs.foldl f L).length ≤ L.length + k * xs.length
  | [], L => by show L.length ≤ _; omega
  | x :: xs, L => by
    have h1 := fold_len f k h xs (f L x)
    have h2 := h L x
    rw [List.foldl_cons, List.length_cons, Nat.mul_add, Nat.mul_one]
    omega
theorem layC_len (seen : List (Ver × Bool)) (x : Ver × Int) (L : List (Ver × Int)) (cm : C7) : (layC seen x L cm).length ≤ L.length + 1 := by
  unfold layC
  split
  · omega
  · exact put_len _ _ _
theorem layO_len (seen : List (Ver × Bool)) (L : List (Ver × Int)) (x : Ver × Int) : (layO seen L x).length ≤ L.length + 7 := fold_len _ 1 (layC_len seen x) all7 L
theorem layF_len (seen : List (Ver × Bool)) (last : List (Ver × Int)) : (layF seen last).length ≤ 7 * last.length := by
  have := fold_len _ 7 (layO_len seen) last []
  rw [List.length_nil, Nat.zero_add] at this; exact this
theorem seeF_len (seen : List (Ver × Bool)) (L : List (Ver × Int)) : (seeF seen L).length ≤ seen.length + L.length := by
  have := fold_len (fun s (x : Ver × Int) => putV s x.1 true) 1 (fun s x => put_len _ _ _) L seen
  rw [Nat.one_mul] at this; exact this
theorem atI_last (fs : List D) (d : D) : atI (fs ++ [d]) (-1) = some d := by
  unfold atI
  have : ixN (fs ++ [d]).length (-1) = some fs.length := by
    unfold ixN
    rw [List.length_append, List.length_singleton]
    simp
    omega
  rw [this]
  simp
theorem getD_mapI (o : Option Int) (z : Int) : (o.map PyData.int).getD (.int z) = .int (o.getD z) := by cases o <;> rfl
noncomputable abbrev lay_cmd : FS := gSeq (gSet 8 (xFn f__law_step (aCons (xVar 6) (aCons (xVar 7) (aNil)))))
        (gIf (tOf (xBin gNotInN (xVar 8) (xVar 2)))
          (gSetN 5 (xVar 8) (xBin gAdd (xGetN (xVar 5) (xVar 8) (xC (.int 0))) (xBin gIxN (xBin gIx (xVar 3) (xUn gNeg (xC (.int 1)))) (xVar 6))))
          (gNx))
abbrev layE (v : D) (n : Int) (seen : List (Ver × Bool)) (fs : List D) (last : List (Ver × Int)) (s4 : Sl) (L : List (Ver × Int)) (s6 s7 s8 : Sl) : ES := ⟨[.d v, .d (.int n), .dct (kvD PyData.bool seen), .own (fs ++ [.dict (kvD PyData.int last)]), s4, .dct (kvD PyData.int L), s6, s7, s8], none⟩
theorem lay_cmd_of (v : D) (n : Int) (seen : List (Ver × Bool)) (fs : List D) (last : List (Ver × Int)) (s4 : Sl) (L : List (Ver × Int)) (x : Ver × Int) (cm : C7) (s8 : Sl) (hn : lookV last x.1 = some x.2) (hl : L.length < 16000000) :
    RS lay_cmd (layE v n seen fs last s4 L (.d x.1.D) (.d (.str cm.s)) s8) fun o e => (o = .nx ∨ o = .ct) ∧ ∃ s8', e = layE v n seen fs last s4 (layC seen x L cm) (.d x.1.D) (.d (.str cm.s)) s8' := by
  unfold layE lay_cmd
  repeat infer_instance
  refine ⟨_, step_of _ _, ?_⟩
  repeat infer_instance
  refine o_notInN (keyOf_V _) ?_
  rw [look_kv, Option.isSome_map]
  repeat infer_instance
  refine ifb_c (fun h => ?_) (fun h => ?_)
  · repeat infer_instance
    refine ⟨.inl rfl, .d (stepV x.1 cm).D, ?_⟩
    unfold layC
    rw [if_pos h]
    rfl
  · repeat infer_instance
    refine ⟨_, _, _, rfl, keyOf_V _, rfl, ?_⟩
    rw [look_kv, getD_mapI]
    repeat infer_instance
    refine o_ixL (atI_last _ _) ?_
    repeat infer_instance
    refine o_ixN (d := .int x.2) (keyOf_V _) (by rw [look_kv, hn]; rfl) ?_
    repeat infer_instance
    refine ⟨_, _, _, rfl, keyOf_V _, rfl, ?_, ?_⟩
    · unfold kvD; rw [List.length_map]; exact hl
    rw [put_kv (f := PyData.int)]
    refine ⟨.inl rfl, .d (stepV x.1 cm).D, ?_⟩
    unfold layC
    rw [if_neg (by rw [h]; decide)]
    rfl
theorem take_snoc {α : Type} {xs : List α} {i : Nat} {x : α} (h : xs[i]? = some x) : xs.take (i + 1) = xs.take i ++ [x] := by
  rw [List.take_add_one, h]; rfl
theorem lay_old_of (v : D) (n : Int) (seen : List (Ver × Bool)) (fs : List D) (last : List (Ver × Int)) (s4 : Sl) (L : List (Ver × Int)) (x : Ver × Int) (s7 s8 : Sl) (hn : lookV last x.1 = some x.2) (hl : L.length + 7 < 16000000) :
    RS (gFor (iItems (xL (xFnL f__law_commands aNil))) (kName 7) lay_cmd) (layE v n seen fs last s4 L (.d x.1.D) s7 s8) fun o e => (o = .nx ∨ o = .ct) ∧ ∃ s7' s8', e = layE v n seen fs last s4 (layO seen L x) (.d x.1.D) s7' s8' := by
  refine rs_for (rl_items (rx_l (rl_call (ra_n (rds_n ⟨_, commands_of, rfl, fz_d (itm_l ?_)⟩)))))
  refine loop_go (fun i e => ∃ s7 s8, e = layE v n seen fs last s4 ((all7.take i).foldl (layC seen x) L) (.d x.1.D) s7 s8) ⟨_, _, rfl⟩ ?_ ?_
  · rintro i d hd _ ⟨s7, s8, rfl⟩
    unfold scD at hd
    rw [List.getElem?_map] at hd
    obtain ⟨cm, h1, rfl⟩ := Option.map_eq_some_iff.mp hd
    refine rg_name ?_
    have hlen := fold_len _ 1 (layC_len seen x) (all7.take i) L
    have h7 : (all7.take i).length ≤ 7 := by rw [List.length_take]; exact Nat.min_le_right _ _
    obtain ⟨o, e, h2, h3, s8', rfl⟩ := lay_cmd_of v n seen fs last s4 ((all7.take i).foldl (layC seen x) L) x cm s8 hn (by omega)
    refine ⟨o, _, h2, h3, .d (.str cm.s), s8', ?_⟩
    rw [take_snoc h1, List.foldl_append]; rfl
  · rintro _ ⟨s7, s8, rfl⟩
    refine ⟨.inl rfl, s7, s8, ?_⟩
    unfold layO
    rw [List.take_of_length_le (by unfold scD; rw [List.length_map]; exact Nat.le_refl _)]

noncomputable abbrev lay_body : FS := gSeq (gNewN 5)
    (gSeq (gFor (iKeysD (xBin gIx (xVar 3) (xUn gNeg (xC (.int 1))))) (kName 6)
      (gFor (iItems (xL (xFnL f__law_commands aNil))) (kName 7) lay_cmd))
    (gSeq (gFor (iKeysD (xVar 5)) (kName 8)
      (gSetN 2 (xVar 8) (xC (.bool true))))
    (gApp 3 (xVar 5))))
abbrev layT (v : D) (n : Int) (seen : List (Ver × Bool)) (fs : List D) (s4 s5 s6 s7 s8 : Sl) : ES := ⟨[.d v, .d (.int n), .dct (kvD PyData.bool seen), .own fs, s4, s5, s6, s7, s8], none⟩
theorem lay_body_of (v : D) (n : Int) (seen : List (Ver × Bool)) (fs : List D) (last : List (Ver × Int)) (s4 s5 s6 s7 s8 : Sl) (hn : nodK last) (hl : 7 * last.length + 7 < 16000000) (hs : seen.length + 7 * last.length + 7 < 16000000) (hf : fs.length + 1 < 16000000) :
    RS lay_body (layT v n seen (fs ++ [.dict (kvD PyData.int last)]) s4 s5 s6 s7 s8) fun o e => (o = .nx ∨ o = .ct) ∧ ∃ s5' s6' s7' s8', e = layT v n (seeF seen (layF seen last)) ((fs ++ [.dict (kvD PyData.int last)]) ++ [.dict (kvD PyData.int (layF seen last))]) s4 s5' s6' s7' s8' := by
  have hF := layF_len seen last
  have hF' : last.foldl (layO seen) [] = layF seen last := rfl
  refine rs_seq (rs_newN (nx_nx (rs_seq (rs_for (rl_keys (rx_bin (rx_vo rfl (rx_un (rx_c (rd_d (o_neg (rd_o rfl (rd_d (o_ixL (atI_last _ _) (fz_d ⟨_, rfl, ?_⟩)))))))))))))))
  rw [kv_keysV]
  refine loop_go (fun i e => ∃ s6 s7 s8, e = layE v n seen fs last s4 ((last.take i).foldl (layO seen) []) s6 s7 s8) ⟨_, _, _, rfl⟩ ?_ ?_
  · rintro i d hd _ ⟨s6, s7, s8, rfl⟩
    rw [List.getElem?_map, List.getElem?_map] at hd
    obtain ⟨w, h1, rfl⟩ := Option.map_eq_some_iff.mp hd
    obtain ⟨x, h2, rfl⟩ := Option.map_eq_some_iff.mp h1
    refine rg_name ?_
    have hlen := fold_len _ 7 (layO_len seen) (last.take i) []
    have h7 : (last.take i).length ≤ last.length := by rw [List.length_take]; exact Nat.min_le_right _ _
    have hx : i < last.length := (List.getElem?_eq_some_iff.mp h2).1
    have h8 : (last.take i).length ≤ i := by rw [List.length_take]; exact Nat.min_le_left _ _
    rw [List.length_nil, Nat.zero_add] at hlen
    obtain ⟨o, e, h3, h4, s7', s8', rfl⟩ := lay_old_of v n seen fs last s4 ((last.take i).foldl (layO seen) []) x s7 s8 (nod_look hn (List.mem_of_getElem? h2)) (by omega)
    refine ⟨o, _, h3, h4, .d x.1.D, s7', s8', ?_⟩
    rw [take_snoc h2, List.foldl_append]; rfl
  rintro _ ⟨s6, s7, s8, rfl⟩
  rw [List.length_map, List.length_map, List.take_length]
  refine nx_nx (rs_seq (rs_for (rl_keys (rx_vk rfl (fz_k rfl ⟨_, rfl, ?_⟩)))))
  rw [kv_keysV]
  refine loop_go (fun i e => ∃ s8, e = layT v n (seeF seen ((layF seen last).take i)) (fs ++ [.dict (kvD PyData.int last)]) s4 (.d (.dict (kvD PyData.int (layF seen last)))) s6 s7 s8) ⟨_, rfl⟩ ?_ ?_
  · rintro i d hd _ ⟨s8, rfl⟩
    rw [List.getElem?_map, List.getElem?_map] at hd
    obtain ⟨w, h1, rfl⟩ := Option.map_eq_some_iff.mp hd
    obtain ⟨x, h2, rfl⟩ := Option.map_eq_some_iff.mp h1
    rw [hF'] at h2
    refine rg_name ?_
    have hlen := seeF_len seen ((layF seen last).take i)
    have h7 : ((layF seen last).take i).length ≤ (layF seen last).length := by rw [List.length_take]; exact Nat.min_le_right _ _
    refine rs_setN (rx_c (fz_d ⟨_, rfl, rx_v rfl ⟨_, _, _, rfl, keyOf_V _, rfl, ?_, .inl rfl, .d x.1.D, ?_⟩⟩))
    · unfold kvD; rw [List.length_map]; omega
    · rw [put_kv (f := PyData.bool), take_snoc h2]
      unfold seeF
      rw [List.foldl_append]; rfl
  rintro _ ⟨s8, rfl⟩
  rw [List.length_map, List.length_map, hF', List.take_length]
  refine nx_nx (rs_app rfl (rx_v rfl (fz_d ⟨_, rfl, ?_, .inl rfl, .d (.dict (kvD PyData.int (layF seen last))), s6, s7, s8, rfl⟩)))
  rw [List.length_append, List.length_singleton]; exact hf
/-- the layers -/
def layS (v : Ver) : Nat → List (List (Ver × Int)) × List (Ver × Int) × List (Ver × Bool)
  | 0 => ([], [(v, 1)], [(v, true)])
  | n + 1 => ((layS v n).1 ++ [(layS v n).2.1], layF (layS v n).2.2 (layS v n).2.1, seeF (layS v n).2.2 (layF (layS v n).2.2 (layS v n).2.1))
def layersV (v : Ver) (n : Nat) : List (List (Ver × Int)) := (layS v n).1 ++ [(layS v n).2.1]
def dcD (l : List (Ver × Int)) : D := .dict (kvD PyData.int l)
theorem layC_nod {seen : List (Ver × Bool)} {x : Ver × Int} {L : List (Ver × Int)} {cm : C7} (h : nodK L) : nodK (layC seen x L cm) := by
  unfold layC
  split
  · exact h
  · exact put_nod h _ _
theorem fold_inv {α β : Type} (P : α → Prop) (f : α → β → α) (h : ∀ L x, P L → P (f L x)) : ∀ (xs : List β) (L : α), P L → P (xs.foldl f L)
  | [], _, k => k
  | x :: xs, L, k => fold_inv P f h xs (f L x) (h L x k)
theorem layF_nod (seen : List (Ver × Bool)) (last : List (Ver × Int)) : nodK (layF seen last) :=
  fold_inv nodK _ (fun _ _ h => fold_inv nodK _ (fun _ _ h => layC_nod h) _ _ h) _ _ List.nodup_nil
theorem layS_nod (v : Ver) : ∀ n, nodK (layS v n).2.1
  | 0 => by unfold nodK; exact List.nodup_cons.mpr ⟨by simp, List.nodup_nil⟩
  | n + 1 => layF_nod _ _
theorem layS_len (v : Ver) : ∀ n : Nat, (layS v n).1.length = n ∧ (layS v n).2.1.length ≤ 7 ^ n ∧ (layS v n).2.2.length ≤ 8 ^ n
  | 0 => ⟨rfl, Nat.le_refl _, Nat.le_refl _⟩
  | n + 1 => by
    obtain ⟨h1, h2, h3⟩ := layS_len v n
    have h4 := layF_len (layS v n).2.2 (layS v n).2.1
    have h5 := seeF_len (layS v n).2.2 (layF (layS v n).2.2 (layS v n).2.1)
    have h6 : 7 ^ n ≤ 8 ^ n := Nat.pow_le_pow_left (by omega) n
    refine ⟨?_, ?_, ?_⟩
    · show ((layS v n).1 ++ [_]).length = _
      rw [List.length_append, List.length_singleton, h1]
    · show (layF _ _).length ≤ _
      rw [Nat.pow_succ]; omega
    · show (seeF _ _).length ≤ _
      rw [Nat.pow_succ]; omega
theorem law_layers_of (v : Ver) : f__law_layers [v.D, .int 4] = some ((layersV v 4).map dcD) := by
  refine callL_of rfl ?_
  unfold g__law_layers
  refine rs_seq (rs_init rfl (keyOf_V v) (nx_nx (rs_seq (rs_for (rl_range1 (ra_c (rx_v rfl (ra_n (rds_c (rd_d (rds_n ⟨_, rfl, by decide, ?_⟩))))))))))) 
  refine loop_go (fun i e => ∃ s4 s5 s6 s7 s8, e = layT v.D 4 (layS v i).2.2 ((layersV v i).map dcD) s4 s5 s6 s7 s8) ⟨_, _, _, _, _, rfl⟩ ?_ ?_
  · rintro i d hd _ ⟨s4, s5, s6, s7, s8, rfl⟩
    obtain ⟨hi, rfl⟩ := rangeD_get hd
    refine rg_name ?_
    obtain ⟨h1, h2, h3⟩ := layS_len v i
    have hi4 : i ≤ 3 := by have : (4 : Int).toNat = 4 := rfl; omega
    have p7 : 7 ^ i ≤ 7 ^ 3 := Nat.pow_le_pow_right (by omega) hi4
    have p8 : 8 ^ i ≤ 8 ^ 3 := Nat.pow_le_pow_right (by omega) hi4
    obtain ⟨o, e, h4, h5, s5', s6', s7', s8', rfl⟩ := lay_body_of v.D 4 (layS v i).2.2 ((layS v i).1.map dcD) (layS v i).2.1 (.d (.int (i : Nat))) s5 s6 s7 s8 (layS_nod v i) (by omega) (by omega) (by rw [List.length_map]; omega)
    have e1 : (layersV v i).map dcD = (layS v i).1.map dcD ++ [.dict (kvD PyData.int (layS v i).2.1)] := by
      unfold layersV; rw [List.map_append]; rfl
    have e2 : (layersV v (i + 1)).map dcD = ((layS v i).1.map dcD ++ [.dict (kvD PyData.int (layS v i).2.1)]) ++ [.dict (kvD PyData.int (layF (layS v i).2.2 (layS v i).2.1))] := by
      unfold layersV; rw [List.map_append]
      show List.map dcD ((layS v i).1 ++ [(layS v i).2.1]) ++ _ = _
      rw [List.map_append]; rfl
    rw [e1, e2]
    exact ⟨o, _, h4, h5, .d (.int (i : Nat)), s5', s6', s7', s8', rfl⟩
  · rintro _ ⟨s4, s5, s6, s7, s8, rfl⟩
    refine nx_nx (rs_ret (rx_vo rfl ?_))
    rfl

/-! the ends of all scripts -/
def endsV (v : Ver) : Nat → List Ver
  | 0 => [v]
  | n + 1 => (endsV v n).flatMap fun u => all7.map (stepV u)
theorem ends_front (v : Ver) : ∀ n, endsV v (n + 1) = all7.flatMap fun cm => endsV (stepV v cm) n
  | 0 => rfl
  | n + 1 => by
    show (endsV v (n + 1)).flatMap _ = _
    rw [ends_front v n, List.flatMap_assoc]
    rfl
def sumI {α : Type} (f : α → Int) (xs : List α) : Int := (xs.map f).sum
theorem sumI_c {α : Type} (f : α → Int) (x : α) (xs : List α) : sumI f (x :: xs) = f x + sumI f xs := by unfold sumI; rw [List.map_cons, List.sum_cons]
theorem sumI_add {α : Type} (f g : α → Int) : ∀ xs : List α, sumI (fun x => f x + g x) xs = sumI f xs + sumI g xs
  | [] => rfl
  | x :: xs => by rw [sumI_c, sumI_c, sumI_c, sumI_add f g xs]; omega
theorem sumI_0 {α : Type} : ∀ xs : List α, sumI (fun _ => 0) xs = 0
  | [] => rfl
  | x :: xs => by rw [sumI_c, sumI_0 xs]; rfl
theorem sumI_congr {α : Type} {f g : α → Int} : ∀ {xs : List α}, (∀ x ∈ xs, f x = g x) → sumI f xs = sumI g xs
  | [], _ => rfl
  | x :: xs, h => by rw [sumI_c, sumI_c, h x (by simp), sumI_congr fun y m => h y (by simp [m])]
theorem sumI_flat {α β : Type} (f : β → Int) (g : α → List β) : ∀ xs : List α, sumI f (xs.flatMap g) = sumI (fun x => sumI f (g x)) xs
  | [] => rfl
  | x :: xs => by
    rw [List.flatMap_cons, sumI_c, ← sumI_flat f g xs]
    unfold sumI
    rw [List.map_append, List.sum_append]
/-- how often -/
def is1 (w u : Ver) : Int := if u = w then 1 else 0
def cntE (w : Ver) (E : List Ver) : Int := sumI (is1 w) E
theorem sum_one (g : Ver → Int) (u : Ver) : ∀ {K : List Ver}, K.Nodup → sumI (fun k => is1 k u * g k) K = if u ∈ K then g u else 0
  | [], _ => rfl
  | k :: K, h => by
    rw [List.nodup_cons] at h
    rw [sumI_c, sum_one g u h.2]
    by_cases e : u = k
    · subst e
      rw [if_neg h.1, if_pos (List.mem_cons_self ..)]
      unfold is1; rw [if_pos rfl]; omega
    · unfold is1
      rw [if_neg e]
      by_cases m : u ∈ K
      · rw [if_pos m, if_pos (List.mem_cons_of_mem _ m)]; omega
      · rw [if_neg m, if_neg (by simp [e, m])]; omega
theorem regroup (g : Ver → Int) {K : List Ver} (hK : K.Nodup) : ∀ {E : List Ver}, (∀ u ∈ E, g u ≠ 0 → u ∈ K) → sumI g E = sumI (fun k => cntE k E * g k) K
  | [], _ => by
    show 0 = _
    rw [← sumI_0 K]
    refine sumI_congr fun k _ => ?_
    show 0 = 0 * _
    omega
  | u :: E, h => by
    rw [sumI_c, regroup g hK (E := E) fun u m => h u (by simp [m])]
    have e1 : sumI (fun k => cntE k (u :: E) * g k) K = sumI (fun k => is1 k u * g k + cntE k E * g k) K := sumI_congr fun k _ => by
      unfold cntE; rw [sumI_c, Int.add_mul]
    rw [e1, sumI_add, sum_one g u hK]
    by_cases m : u ∈ K
    · rw [if_pos m]
    · rw [if_neg m, Classical.byContradiction fun q => m (h u (by simp) q)]
theorem cnt_flat (w v : Ver) (n : Nat) : cntE w (endsV v (n + 1)) = sumI (fun u => cntE w (all7.map (stepV u))) (endsV v n) := sumI_flat _ _ _
theorem cnt_pos {w : Ver} : ∀ {E : List Ver}, 0 ≤ cntE w E ∧ (0 < cntE w E ↔ w ∈ E)
  | [] => ⟨Int.le_refl _, by constructor <;> intro h <;> cases h⟩
  | u :: E => by
    obtain ⟨h1, h2⟩ := cnt_pos (w := w) (E := E)
    unfold cntE at h1 h2 ⊢
    rw [sumI_c]
    unfold is1 at h1 h2 ⊢
    by_cases e : u = w
    · rw [if_pos e]
      exact ⟨by omega, fun _ => by rw [e]; simp, fun _ => by omega⟩
    · rw [if_neg e]
      refine ⟨by omega, fun h => List.mem_cons_of_mem _ (h2.mp (by omega)), fun h => ?_⟩
      rcases List.mem_cons.mp h with rfl | h
      · exact absurd rfl e
      · have := h2.mpr h; omega

/-! what a layer holds -/
def unseen (v w : Ver) (n : Nat) : Prop := ∀ j, j < n → w ∉ endsV v j
theorem layC_look (seen : List (Ver × Bool)) (x : Ver × Int) (w : Ver) (hw : (lookV seen w).isSome = false) (L : List (Ver × Int)) (cm : C7) : lookV (layC seen x L cm) w = if stepV x.1 cm = w then some ((lookV L w).getD 0 + x.2) else lookV L w := by
  unfold layC
  by_cases e : stepV x.1 cm = w
  · subst e
    rw [if_neg (by rw [hw]; decide), look_put, if_pos rfl]
  · rw [if_neg e]
    split
    · rfl
    · rw [look_put, if_neg (fun q => e q.symm)]
theorem layC_skip (seen : List (Ver × Bool)) (x : Ver × Int) (w : Ver) (hw : (lookV seen w).isSome = true) (L : List (Ver × Int)) (cm : C7) : lookV (layC seen x L cm) w = lookV L w := by
  unfold layC
  split
  · rfl
  · rename_i h
    rw [look_put, if_neg]
    intro e
    subst e
    exact h hw
theorem layO_look (seen : List (Ver × Bool)) (x : Ver × Int) (w : Ver) (hw : (lookV seen w).isSome = false) : ∀ (cs : List C7) (L : List (Ver × Int)), (lookV (cs.foldl (layC seen x) L) w).getD 0 = (lookV L w).getD 0 + x.2 * cntE w (cs.map (stepV x.1)) ∧ ((lookV (cs.foldl (layC seen x) L) w).isSome = true ↔ ((lookV L w).isSome = true ∨ w ∈ cs.map (stepV x.1)))
  | [], L => by
    refine ⟨?_, ?_⟩
    · show _ = _ + x.2 * 0
      rw [Int.mul_zero, Int.add_zero]; rfl
    · simp
  | cm :: cs, L => by
    obtain ⟨h1, h2⟩ := layO_look seen x w hw cs (layC seen x L cm)
    rw [List.foldl_cons]
    rw [layC_look seen x w hw L cm] at h1 h2
    refine ⟨?_, ?_⟩
    · rw [h1, List.map_cons]
      unfold cntE
      rw [sumI_c]
      unfold is1
      by_cases e : stepV x.1 cm = w
      · rw [if_pos e, if_pos e, Int.mul_add, Int.mul_one]
        show _ + _ + _ = _
        omega
      · rw [if_neg e, if_neg e, Int.zero_add]
    · rw [h2, List.map_cons, List.mem_cons]
      by_cases e : stepV x.1 cm = w
      · rw [if_pos e]
        simp [e]
      · rw [if_neg e]
        have e' : ¬ w = stepV x.1 cm := fun q => e q.symm
        simp [e']
theorem layF_look (seen : List (Ver × Bool)) (w : Ver) (hw : (lookV seen w).isSome = false) : ∀ (xs L : List (Ver × Int)), (lookV (xs.foldl (layO seen) L) w).getD 0 = (lookV L w).getD 0 + sumI (fun x => x.2 * cntE w (all7.map (stepV x.1))) xs ∧ ((lookV (xs.foldl (layO seen) L) w).isSome = true ↔ ((lookV L w).isSome = true ∨ ∃ x ∈ xs, w ∈ all7.map (stepV x.1)))
  | [], L => by
    refine ⟨?_, ?_⟩
    · show _ = _ + 0
      rw [Int.add_zero]; rfl
    · simp
  | x :: xs, L => by
    obtain ⟨h1, h2⟩ := layF_look seen w hw xs (layO seen L x)
    obtain ⟨h3, h4⟩ := layO_look seen x w hw all7 L
    rw [List.foldl_cons]
    refine ⟨?_, ?_⟩
    · rw [h1, sumI_c]
      show (lookV (all7.foldl (layC seen x) L) w).getD 0 + _ = _
      rw [h3]; omega
    · rw [h2]
      show ((lookV (all7.foldl (layC seen x) L) w).isSome = true ∨ _) ↔ _
      rw [h4]
      simp only [List.mem_cons, exists_eq_or_imp, or_assoc]
theorem layF_skip (seen : List (Ver × Bool)) (w : Ver) (hw : (lookV seen w).isSome = true) (xs : List (Ver × Int)) : lookV (xs.foldl (layO seen) []) w = none :=
  fold_inv (fun L => lookV L w = none) _ (fun L x h => fold_inv (fun L => lookV L w = none) _ (fun L cm h => by rw [layC_skip seen x w hw]; exact h) all7 L h) xs [] rfl
theorem seeF_look (w : Ver) : ∀ (L : List (Ver × Int)) (seen : List (Ver × Bool)), (lookV (seeF seen L) w).isSome = true ↔ ((lookV seen w).isSome = true ∨ w ∈ L.map (·.1))
  | [], seen => by simp [seeF]
  | x :: L, seen => by
    have h := seeF_look w L (putV seen x.1 true)
    show (lookV (seeF (putV seen x.1 true) L) w).isSome = true ↔ _
    rw [h, look_put, List.map_cons, List.mem_cons]
    by_cases e : w = x.1
    · rw [if_pos e]; simp [e]
    · rw [if_neg e]; simp [e]

theorem mem_ends {v w : Ver} {n : Nat} : w ∈ endsV v (n + 1) ↔ ∃ u ∈ endsV v n, w ∈ all7.map (stepV u) := by
  show w ∈ (endsV v n).flatMap _ ↔ _
  rw [List.mem_flatMap]
theorem layS_spec (v : Ver) : ∀ n : Nat, (∀ w, (lookV (layS v n).2.1 w).isSome = true ↔ (w ∈ endsV v n ∧ unseen v w n)) ∧ (∀ w, w ∈ endsV v n → unseen v w n → (lookV (layS v n).2.1 w).getD 0 = cntE w (endsV v n)) ∧ (∀ w, (lookV (layS v n).2.2 w).isSome = true ↔ ∃ j, j ≤ n ∧ w ∈ endsV v j)
  | 0 => by
    refine ⟨fun w => ?_, fun w h _ => ?_, fun w => ?_⟩
    · rw [look_none]
      show w ∈ [v] ↔ w ∈ [v] ∧ _
      exact ⟨fun h => ⟨h, fun j hj => absurd hj (Nat.not_lt_zero j)⟩, fun h => h.1⟩
    · have e : w = v := List.mem_singleton.mp h
      subst e
      show (lookV [(w, (1 : Int))] w).getD 0 = cntE w [w]
      unfold lookV cntE sumI is1
      simp
    · rw [look_none]
      show w ∈ [v] ↔ _
      refine ⟨fun h => ⟨0, Nat.le_refl _, h⟩, ?_⟩
      rintro ⟨j, hj, h⟩
      have : j = 0 := by omega
      subst this
      exact h
  | n + 1 => by
    obtain ⟨ha, hb, hc⟩ := layS_spec v n
    have hnod := layS_nod v n
    have A : ∀ w, (lookV (layF (layS v n).2.2 (layS v n).2.1) w).isSome = true ↔ (w ∈ endsV v (n + 1) ∧ unseen v w (n + 1)) := by
      intro w
      by_cases hs : (lookV (layS v n).2.2 w).isSome = true
      · have h0 : lookV (layF (layS v n).2.2 (layS v n).2.1) w = none := layF_skip _ w hs _
        rw [h0]
        obtain ⟨j, hj, hm⟩ := (hc w).mp hs
        exact ⟨fun h => (nomatch h), fun h => absurd hm (h.2 j (by omega))⟩
      · have hs' : (lookV (layS v n).2.2 w).isSome = false := by simpa using hs
        obtain ⟨_, h2⟩ := layF_look _ w hs' (layS v n).2.1 []
        show (lookV ((layS v n).2.1.foldl _ []) w).isSome = true ↔ _
        rw [h2]
        constructor
        · rintro (h | ⟨x, hx, h⟩)
          · cases h
          · refine ⟨mem_ends.mpr ⟨x.1, ?_, h⟩, fun j hj hm => hs ((hc w).mpr ⟨j, by omega, hm⟩)⟩
            exact ((ha x.1).mp (look_none.mpr (List.mem_map.mpr ⟨x, hx, rfl⟩))).1
        · rintro ⟨h, hu⟩
          obtain ⟨u, hu1, hu2⟩ := mem_ends.mp h
          right
          have hun : unseen v u n := fun j hj hm => hu (j + 1) (by omega) (mem_ends.mpr ⟨u, hm, hu2⟩)
          obtain ⟨x, hx, rfl⟩ := List.mem_map.mp (look_none.mp ((ha u).mpr ⟨hu1, hun⟩))
          exact ⟨x, hx, hu2⟩
    refine ⟨A, fun w hw hu => ?_, fun w => ?_⟩
    · have hs' : (lookV (layS v n).2.2 w).isSome = false := by
        cases q : (lookV (layS v n).2.2 w).isSome with
        | false => rfl
        | true => obtain ⟨j, hj, hm⟩ := (hc w).mp q; exact absurd hm (hu j (by omega))
      obtain ⟨h1, _⟩ := layF_look _ w hs' (layS v n).2.1 []
      show (lookV ((layS v n).2.1.foldl _ []) w).getD 0 = _
      rw [h1, cnt_flat]
      rw [regroup (fun u => cntE w (all7.map (stepV u))) hnod (E := endsV v n) ?_]
      · have e1 : ∀ f : Ver → Int, sumI f ((layS v n).2.1.map (·.1)) = sumI (fun x => f x.1) (layS v n).2.1 := fun f => by unfold sumI; rw [List.map_map]; rfl
        rw [e1]
        show 0 + _ = _
        rw [Int.zero_add]
        refine sumI_congr fun x hx => ?_
        have h3 := (ha x.1).mp (look_none.mpr (List.mem_map.mpr ⟨x, hx, rfl⟩))
        have h4 := hb x.1 h3.1 h3.2
        rw [nod_look hnod hx] at h4
        rw [← h4]; rfl
      · intro u hu1 hg
        have hg' : w ∈ all7.map (stepV u) := by
          have h5 := cnt_pos (w := w) (E := all7.map (stepV u))
          exact h5.2.mp (by have := h5.1; omega)
        exact look_none.mp ((ha u).mpr ⟨hu1, fun j hj hm => hu (j + 1) (by omega) (mem_ends.mpr ⟨u, hm, hg'⟩)⟩)
    · show (lookV (seeF _ _) w).isSome = true ↔ _
      rw [seeF_look, ← look_none, A w, hc w]
      constructor
      · rintro (⟨j, hj, hm⟩ | ⟨h, _⟩)
        · exact ⟨j, by omega, hm⟩
        · exact ⟨n + 1, Nat.le_refl _, h⟩
      · rintro ⟨j, hj, hm⟩
        by_cases q : ∃ j, j ≤ n ∧ w ∈ endsV v j
        · exact .inl q
        · right
          have : j = n + 1 := by
            by_cases g : j ≤ n
            · exact absurd ⟨j, g, hm⟩ q
            · omega
          subst this
          exact ⟨hm, fun j hj hm' => q ⟨j, by omega, hm'⟩⟩

theorem rank_of (v : Ver) : f_rank [v.D] = some (rankD v) := by
  obtain ⟨a, b, c, p⟩ := v
  refine callP_of rfl ?_
  unfold g_rank
  cases p with
  | none =>
    dsimp only [Ver.D, vD, pd]
    repeat infer_instance
    rfl
  | some k =>
    dsimp only [Ver.D, vD, pd]
    repeat infer_instance
    rfl
theorem compare_of (v w : Ver) : f_compare [v.D, w.D] = some (.int (cmpV v w)) := by
  refine callP_of rfl ?_
  unfold g_compare
  repeat infer_instance
  refine o_eqD ?_ ?_
  · cases v with | mk a b c p => cases w with | mk a' b' c' p' => cases p <;> cases p' <;> rfl
  rw [eqv_ver]
  repeat infer_instance
  refine ifb_d (fun h => ?_) (fun h => ?_)
  · subst h
    repeat infer_instance
    rw [cmp_eq]
    rfl
  · repeat infer_instance
    refine ⟨_, rank_of v, ?_⟩
    repeat infer_instance
    refine ⟨_, rank_of w, ?_⟩
    repeat infer_instance
    have e : gLt (rankD v) (rankD w) = some (.bool (PySem.W.dataLt (rankD v) (rankD w))) := rfl
    rw [rank_lt] at e
    refine ⟨_, e, ?_⟩
    repeat infer_instance
    rcases cmp_ne h with e1 | e1
    · rw [e1]
      repeat infer_instance
      rfl
    · rw [e1]
      repeat infer_instance
      rfl
theorem c1_compare {v w : Ver} {K : D → Prop} (k : K (.int (cmpV v w))) : C1 f_compare [v.D, w.D] K := ⟨_, compare_of v w, k⟩

theorem raises_of (v w : Ver) : f_raises [v.D, w.D] = some (.tuple [.int (raisesV v w).1, .int (raisesV v w).2.1, .int (raisesV v w).2.2]) := by
  obtain ⟨a, b, c, p⟩ := v
  obtain ⟨a', b', c', p'⟩ := w
  dsimp only [Ver.D, vD]
  refine callP_of rfl ?_
  unfold g_raises raisesV
  repeat' first | infer_instance | refine ifb_d (fun _ => ?_) (fun _ => ?_)
  all_goals simp_all [outD]
theorem is_due_of (v : Ver) (x y z : Int) : f_is_due [v.D, .tuple [.int x, .int y, .int z]] = some (.bool (dueV v x y)) := by
  obtain ⟨a, b, c, p⟩ := v
  dsimp only [Ver.D]
  refine callP_of rfl ?_
  unfold g_is_due dueV
  cases p with
  | none =>
    dsimp only [vD, pd]
    repeat infer_instance
    rfl
  | some k =>
    dsimp only [vD, pd]
    repeat' first | infer_instance | refine ifb_d (fun _ => ?_) (fun _ => ?_)
    all_goals simp_all [outD]
    all_goals (intros; omega)

theorem c_sum3 {x y z : Int} {K : D → Prop} (k : K (.int (x + y + z))) : C1 gSum [.tuple [.int x, .int y, .int z]] K := ⟨_, rfl, by
  have e : [x, y, z].sum = x + y + z := by simp [Int.add_assoc]
  show K (.int [x, y, z].sum)
  rw [e]; exact k⟩
theorem c_sum3L {x y z : Int} {K : D → Prop} (k : K (.int (x + y + z))) : C1 gSum [.list [.int x, .int y, .int z]] K := ⟨_, rfl, by
  have e : [x, y, z].sum = x + y + z := by simp [Int.add_assoc]
  show K (.int [x, y, z].sum)
  rw [e]; exact k⟩
theorem eqv3 (v w : Ver) : PyData.eqv (.tuple [.int v.a, .int v.b, .int v.c]) (.tuple [.int w.a, .int w.b, .int w.c]) = decide (sameN v w) := by
  rw [eqvTup, eqvT, eqvT, eqvT, eqvI, eqvI, eqvI]
  have e : PyData.eqvAll ([] : List D) [] = true := by rw [PyData.eqvAll]
  have e2 : decide (sameN v w) = true ↔ sameN v w := by simp
  rw [e, Bool.eq_iff_iff, e2]
  unfold sameN
  simp
theorem cut3 (x y z u : D) : cutD [x, y, z, u] none (some 3) = [x, y, z] := rfl
theorem same_pre {v w : Ver} {k : Int} (h : ¬ cmpV w v < 0) (hs : sameN v w) (hw : w.p = some k) : ∃ j, v.p = some j := by
  cases hv : v.p with
  | some j => exact ⟨j, rfl⟩
  | none =>
    exfalso
    apply h
    unfold cmpV
    obtain ⟨h1, h2, h3⟩ := hs
    rw [if_neg (by simp [h1]), if_neg (by simp [h2]), if_neg (by simp [h3]), hw, hv]
    show (-1 : Int) < 0
    decide
theorem fewest_of (v w : Ver) : f_fewest [v.D, w.D] = some (pd (fewV v w)) := by
  refine callP_of rfl ?_
  unfold g_fewest
  repeat infer_instance
  refine c1_compare ?_
  repeat infer_instance
  unfold fewV
  refine ifb_d (fun h => ?_) (fun h => ?_)
  · rw [if_pos h]
    repeat infer_instance
    rfl
  rw [if_neg h]
  repeat infer_instance
  refine o_eqD ?_ ?_
  · cases v with | mk a b c p => cases w with | mk a' b' c' p' => cases p <;> cases p' <;> rfl
  rw [eqv_ver]
  repeat infer_instance
  refine ifb_d (fun h1 => ?_) (fun h1 => ?_)
  · rw [if_pos h1]
    repeat infer_instance
    rfl
  rw [if_neg h1]
  repeat infer_instance
  rw [cut3, cut3]
  refine o_eqD rfl ?_
  rw [eqv3]
  repeat infer_instance
  refine ifb_d (fun h2 => ?_) (fun h2 => ?_)
  · rw [if_pos h2]
    cases hw : w.p with
    | none =>
      simp only [Ver.D, vD, hw, pd_none]
      repeat infer_instance
      rfl
    | some k =>
      obtain ⟨j, hv⟩ := same_pre h h2 hw
      simp only [Ver.D, vD, hw, hv, pd_some]
      repeat infer_instance
      rfl
  rw [if_neg h2]
  repeat infer_instance
  refine ⟨_, raises_of v w, ?_⟩
  repeat infer_instance
  cases hw : w.p with
  | none =>
    simp only [Ver.D, vD, hw, pd_none]
    repeat infer_instance
    refine c_sum3 ?_
    repeat infer_instance
    refine ⟨_, is_due_of v _ _ _, ?_⟩
    repeat' first | infer_instance | refine ifb_c (fun h => ?_) (fun h => ?_)
    · rw [h]; rfl
    · rw [h]; rfl
  | some k =>
    simp only [Ver.D, vD, hw, pd_some]
    repeat infer_instance
    refine c_sum3 ?_
    repeat infer_instance
    rfl

theorem raised_of (v : Ver) (cm : C7) : f_raised [v.D, .str cm.s] = some (stepV v cm).D := by
  obtain ⟨a, b, c, p⟩ := v
  refine callP_of rfl ?_
  unfold g_raised
  dsimp only [Ver.D]
  cases p with
  | none =>
    dsimp only [vD, pd]
    cases cm
    all_goals (repeat' first | infer_instance | refine ifb_d (fun _ => ?_) (fun _ => ?_))
    all_goals rfl
  | some k =>
    dsimp only [vD, pd]
    cases cm
    all_goals (repeat' first | infer_instance | refine ifb_d (fun _ => ?_) (fun _ => ?_))
    all_goals first | rfl | simp_all [stepV, outD, C7.part, C7.pre, Ver.zero, Ver.raise]

theorem like_seq (n : Nat) (xs : List D) (d : D) (hd : d = .list xs ∨ d = .tuple xs) (hl : xs.length ≤ 1000000) (ih : ∀ x ∈ xs, f__law_like n [x, x] = some (.bool true)) : callP (g__law_like (f__law_like n)) 3 2 [d, d] = some (.bool true) := by
  have body : ∀ {e1 : ES}, e1 = ⟨[.d d, .d d, .un], none⟩ → RC [2] (kName 2) (tNot (tOf (xFn (f__law_like n) (aCons (xBin gIx (xVar 0) (xVar 2)) (aCons (xBin gIx (xVar 1) (xVar 2)) aNil))))) (xVar 2) (rangeD 0 xs.length) [] (wipeE [2] e1) (fun ys e2 => ys = [] ∧ restoreE [2] e1 e2 = e1) := by
    rintro _ rfl
    refine rc_go (fun _ acc e => acc = [] ∧ e = ⟨[.d d, .d d, .un], none⟩) ⟨rfl, rfl⟩ ?_ ?_
    · rintro i y hy acc _ ⟨rfl, rfl⟩
      obtain ⟨h1, rfl⟩ := rangeD_get hy
      have h2 : xs[i]? = some xs[i] := by simp [h1]
      have h3 := ih xs[i] (List.getElem_mem h1)
      rcases hd with rfl | rfl
      · repeat infer_instance
        refine o_ixL (atI_nat h2) ?_
        repeat infer_instance
        refine o_ixL (atI_nat h2) ?_
        repeat infer_instance
        refine ⟨_, h3, ?_⟩
        repeat infer_instance
        rfl
      · repeat infer_instance
        refine o_ixT (atI_nat h2) ?_
        repeat infer_instance
        refine o_ixT (atI_nat h2) ?_
        repeat infer_instance
        refine ⟨_, h3, ?_⟩
        repeat infer_instance
        rfl
    · rintro acc _ ⟨rfl, rfl⟩
      exact ⟨rfl, rfl⟩
  have hr : okR ((xs.length : Nat) : Int) = true := by unfold okR; rw [decide_eq_true_eq]; omega
  rcases hd with rfl | rfl
  · refine callP_of rfl ?_
    unfold g__law_like
    repeat infer_instance
    obtain ⟨ys, e2, h1, h2, h3⟩ := body rfl
    refine ⟨ys, e2, h1, ?_⟩
    subst h2
    repeat infer_instance
    refine o_eq_refl rfl ?_
    repeat infer_instance
    rfl
  · refine callP_of rfl ?_
    unfold g__law_like
    repeat infer_instance
    obtain ⟨ys, e2, h1, h2, h3⟩ := body rfl
    refine ⟨ys, e2, h1, ?_⟩
    subst h2
    repeat infer_instance
    refine o_eq_refl rfl ?_
    repeat infer_instance
    rfl
theorem like_refl : ∀ (n : Nat) (d : D), okD n d → f__law_like n [d, d] = some (.bool true)
  | 0, _, h => h.elim
  | n + 1, .none, _ => by
    refine callP_of rfl ?_
    unfold g__law_like
    repeat infer_instance
    rfl
  | n + 1, .bool b, _ => by
    cases b
    · refine callP_of rfl ?_
      unfold g__law_like
      repeat infer_instance
      rfl
    · refine callP_of rfl ?_
      unfold g__law_like
      repeat infer_instance
      rfl
  | n + 1, .int i, _ => by
    refine callP_of rfl ?_
    unfold g__law_like
    repeat infer_instance
    exact congrArg (fun b => some (PyData.bool b)) (decide_eq_true rfl)
  | n + 1, .str _, _ => by
    refine callP_of rfl ?_
    unfold g__law_like
    repeat infer_instance
    simp [outD]
  | n + 1, .dict _, h => h.elim
  | n + 1, .list xs, h => like_seq n xs _ (.inl rfl) h.1 fun x m => like_refl n x (h.2 x m)
  | n + 1, .tuple xs, h => like_seq n xs _ (.inr rfl) h.1 fun x m => like_refl n x (h.2 x m)
theorem c1_like {d : D} {K : D → Prop} (h : okD 6 d) (k : K (.bool true)) : C1 (f__law_like 6) [d, d] K := ⟨_, like_refl 6 d h, k⟩
theorem c1_likeI {i j : Int} {K : D → Prop} (h : i = j) (k : K (.bool true)) : C1 (f__law_like 6) [.int i, .int j] K := by
  subst h
  exact c1_like True.intro k

/-! ### scripts on all versions: a number as a start's number plus so many -/
structure Sy where
  base : Bool
  k : Nat
deriving DecidableEq
def Sy.ev (s : Sy) (x : Int) : Int := (if s.base = true then x else 0) + (s.k : Int)
def Sy.up (s : Sy) : Sy := ⟨s.base, s.k + 1⟩
def Sy.isZ (s : Sy) : Bool := !s.base && s.k == 0
structure SV where
  a : Sy
  b : Sy
  c : Sy
  p : Option Sy
deriving DecidableEq
def z0 : Sy := ⟨false, 0⟩
def SV.ev (s : SV) (v : Ver) : Ver := ⟨s.a.ev v.a, s.b.ev v.b, s.c.ev v.c, s.p.map fun y => y.ev (v.p.getD 0)⟩
def SV.zero (v : SV) : Nat → Bool
  | 0 => v.b.isZ && v.c.isZ
  | 1 => v.c.isZ
  | _ => true
def SV.raise (v : SV) (p : Option Sy) : Nat → SV
  | 0 => ⟨v.a.up, z0, z0, p⟩
  | 1 => ⟨v.a, v.b.up, z0, p⟩
  | _ => ⟨v.a, v.b, v.c.up, p⟩
def stepY (v : SV) (cm : C7) : SV := match cm, v.p with
  | .prerelease, some k => { v with p := some k.up }
  | cm, p => let q : Option Sy := if cm.pre = true then some z0 else none
    if cm.pre = true ∨ p = none ∨ v.zero cm.part = false then v.raise q cm.part else { v with p := q }
def runY (v : SV) (s : List C7) : SV := s.foldl stepY v
def startY (zb zc pn : Bool) : SV := ⟨⟨true, 0⟩, if zb = true then z0 else ⟨true, 0⟩, if zc = true then z0 else ⟨true, 0⟩, if pn = true then none else some ⟨true, 0⟩⟩
def SV.good (s : SV) (v : Ver) : Prop := (s.b.base = true → 0 < v.b) ∧ (s.c.base = true → 0 < v.c)
theorem up_ev (s : Sy) (x : Int) : s.up.ev x = s.ev x + 1 := by
  unfold Sy.ev Sy.up; dsimp only; split <;> omega
theorem isZ_ev {s : Sy} {x : Int} (h : s.base = true → 0 < x) : s.isZ = decide (s.ev x = 0) := by
  obtain ⟨b, k⟩ := s
  unfold Sy.isZ Sy.ev
  cases b with
  | true =>
    have := h rfl
    rw [decide_eq_false (by simp; omega)]; rfl
  | false =>
    by_cases hk : k = 0
    · subst hk; rfl
    · rw [decide_eq_false (by simp; omega)]
      simp [hk]
theorem stepV_maj (a b c k : Int) : stepV ⟨a, b, c, some k⟩ .major = if Ver.zero ⟨a, b, c, some k⟩ 0 = false then Ver.raise ⟨a, b, c, some k⟩ none 0 else ⟨a, b, c, none⟩ := by
  simp [stepV, C7.pre, C7.part]
theorem stepV_min (a b c k : Int) : stepV ⟨a, b, c, some k⟩ .minor = if Ver.zero ⟨a, b, c, some k⟩ 1 = false then Ver.raise ⟨a, b, c, some k⟩ none 1 else ⟨a, b, c, none⟩ := by
  simp [stepV, C7.pre, C7.part]
theorem stepY_maj (a b c k : Sy) : stepY ⟨a, b, c, some k⟩ .major = if SV.zero ⟨a, b, c, some k⟩ 0 = false then SV.raise ⟨a, b, c, some k⟩ none 0 else ⟨a, b, c, none⟩ := by
  simp [stepY, C7.pre, C7.part]
theorem stepY_min (a b c k : Sy) : stepY ⟨a, b, c, some k⟩ .minor = if SV.zero ⟨a, b, c, some k⟩ 1 = false then SV.raise ⟨a, b, c, some k⟩ none 1 else ⟨a, b, c, none⟩ := by
  simp [stepY, C7.pre, C7.part]
theorem step_ev {s : SV} {v : Ver} (g : s.good v) (cm : C7) : stepV (s.ev v) cm = (stepY s cm).ev v := by
  have e1 := isZ_ev g.1
  have e2 := isZ_ev g.2
  obtain ⟨a, b, c, p⟩ := s
  dsimp only at e1 e2
  have z : ∀ n, Ver.zero (SV.ev ⟨a, b, c, p⟩ v) n = SV.zero ⟨a, b, c, p⟩ n := fun n => by
    match n with
    | 0 => show (decide (b.ev v.b = 0) && decide (c.ev v.c = 0)) = (b.isZ && c.isZ); rw [e1, e2]
    | 1 => show decide (c.ev v.c = 0) = c.isZ; rw [e2]
    | _ + 2 => rfl
  have zz : ∀ (x : Int), z0.ev x = 0 := fun x => rfl
  have rz : ∀ (q : Option Sy) n, (SV.raise ⟨a, b, c, p⟩ q n).ev v = Ver.raise (SV.ev ⟨a, b, c, p⟩ v) (q.map fun y => y.ev (v.p.getD 0)) n := fun q n => by
    match n with
    | 0 => show (⟨a.up.ev v.a, z0.ev v.b, z0.ev v.c, _⟩ : Ver) = ⟨a.ev v.a + 1, 0, 0, _⟩; rw [up_ev, zz, zz]; rfl
    | 1 => show (⟨a.ev v.a, b.up.ev v.b, z0.ev v.c, _⟩ : Ver) = ⟨a.ev v.a, b.ev v.b + 1, 0, _⟩; rw [up_ev, zz]; rfl
    | _ + 2 => show (⟨a.ev v.a, b.ev v.b, c.up.ev v.c, _⟩ : Ver) = ⟨a.ev v.a, b.ev v.b, c.ev v.c + 1, _⟩; rw [up_ev]; rfl
  cases p with
  | none =>
    cases cm with
    | major => exact (rz none 0).symm
    | minor => exact (rz none 1).symm
    | patch => exact (rz none 2).symm
    | premajor => exact (rz (some z0) 0).symm
    | preminor => exact (rz (some z0) 1).symm
    | prepatch => exact (rz (some z0) 2).symm
    | prerelease => exact (rz (some z0) 2).symm
  | some y =>
    cases cm with
    | major =>
      rw [stepY_maj]
      show stepV ⟨a.ev v.a, b.ev v.b, c.ev v.c, some (y.ev (v.p.getD 0))⟩ .major = _
      rw [stepV_maj]
      have zz : Ver.zero ⟨a.ev v.a, b.ev v.b, c.ev v.c, some (y.ev (v.p.getD 0))⟩ 0 = _ := z 0
      rw [zz]
      split
      · exact (rz none 0).symm
      · rfl
    | minor =>
      rw [stepY_min]
      show stepV ⟨a.ev v.a, b.ev v.b, c.ev v.c, some (y.ev (v.p.getD 0))⟩ .minor = _
      rw [stepV_min]
      have zz : Ver.zero ⟨a.ev v.a, b.ev v.b, c.ev v.c, some (y.ev (v.p.getD 0))⟩ 1 = _ := z 1
      rw [zz]
      split
      · exact (rz none 1).symm
      · rfl
    | patch => rfl
    | premajor => exact (rz (some z0) 0).symm
    | preminor => exact (rz (some z0) 1).symm
    | prepatch => exact (rz (some z0) 2).symm
    | prerelease => show (⟨_, _, _, some (y.ev (v.p.getD 0) + 1)⟩ : Ver) = ⟨_, _, _, some (y.up.ev (v.p.getD 0))⟩; rw [up_ev]; rfl
theorem step_base {s : SV} (cm : C7) : ((stepY s cm).b.base = true → s.b.base = true) ∧ ((stepY s cm).c.base = true → s.c.base = true) ∧ (stepY s cm).a.base = s.a.base := by
  obtain ⟨a, b, c, p⟩ := s
  have hr : ∀ (q : Option Sy) n, ((SV.raise ⟨a, b, c, p⟩ q n).b.base = true → b.base = true) ∧ ((SV.raise ⟨a, b, c, p⟩ q n).c.base = true → c.base = true) ∧ (SV.raise ⟨a, b, c, p⟩ q n).a.base = a.base := fun q n => by
    match n with
    | 0 => exact ⟨fun h => (nomatch h), fun h => (nomatch h), rfl⟩
    | 1 => exact ⟨fun h => h, fun h => (nomatch h), rfl⟩
    | _ + 2 => exact ⟨fun h => h, fun h => h, rfl⟩
  unfold stepY
  split
  · exact ⟨fun h => h, fun h => h, rfl⟩
  · dsimp only
    split
    · exact hr _ _
    · exact ⟨fun h => h, fun h => h, rfl⟩
def SV.most (s : SV) (n : Nat) : Prop := s.a.k ≤ n ∧ s.b.k ≤ n ∧ s.c.k ≤ n ∧ ∀ y, s.p = some y → y.k ≤ n
theorem step_most {s : SV} {n : Nat} (h : s.most n) (cm : C7) : (stepY s cm).most (n + 1) := by
  obtain ⟨a, b, c, p⟩ := s
  obtain ⟨h1, h2, h3, h4⟩ := h
  dsimp only at h1 h2 h3 h4
  have hq : ∀ y, (if cm.pre = true then some z0 else none) = some y → y.k ≤ n + 1 := fun y hy => by
    split at hy
    · cases hy; exact Nat.zero_le _
    · cases hy
  have hr : ∀ (q : Option Sy) i, (∀ y, q = some y → y.k ≤ n + 1) → (SV.raise ⟨a, b, c, p⟩ q i).most (n + 1) := fun q i hq => by
    match i with
    | 0 => exact ⟨Nat.succ_le_succ h1, Nat.zero_le _, Nat.zero_le _, hq⟩
    | 1 => exact ⟨Nat.le_succ_of_le h1, Nat.succ_le_succ h2, Nat.zero_le _, hq⟩
    | _ + 2 => exact ⟨Nat.le_succ_of_le h1, Nat.le_succ_of_le h2, Nat.succ_le_succ h3, hq⟩
  unfold stepY
  split
  · rename_i k hk
    refine ⟨Nat.le_succ_of_le h1, Nat.le_succ_of_le h2, Nat.le_succ_of_le h3, fun y hy => ?_⟩
    cases hy
    exact Nat.succ_le_succ (h4 k hk)
  · dsimp only
    split
    · exact hr _ _ hq
    · exact ⟨Nat.le_succ_of_le h1, Nat.le_succ_of_le h2, Nat.le_succ_of_le h3, hq⟩
theorem run_ev {v : Ver} : ∀ (s : List C7) {t : SV}, t.good v → runV (t.ev v) s = (runY t s).ev v
  | [], _, _ => rfl
  | cm :: s, t, g => by
    show runV (stepV (t.ev v) cm) s = (runY (stepY t cm) s).ev v
    rw [step_ev g]
    have b := step_base (s := t) cm
    exact run_ev s ⟨fun h => g.1 (b.1 h), fun h => g.2 (b.2.1 h)⟩
theorem run_most : ∀ (s : List C7) {t : SV} {n : Nat}, t.most n → (runY t s).most (n + s.length)
  | [], _, _, h => h
  | cm :: s, t, n, h => by
    have := run_most s (step_most h cm)
    rw [List.length_cons, show n + (s.length + 1) = n + 1 + s.length by omega]
    exact this
theorem run_abase : ∀ (s : List C7) {t : SV}, (runY t s).a.base = t.a.base
  | [], _ => rfl
  | cm :: s, t => (run_abase s (t := stepY t cm)).trans (step_base cm).2.2
/-- two scripts that agree on all kinds of versions -/
def eqY (s t : List C7) : Prop := ∀ zb zc pn : Bool, runY (startY zb zc pn) s = runY (startY zb zc pn) t
instance (s t : List C7) : Decidable (eqY s t) := by unfold eqY; infer_instance
theorem start_ev {v : Ver} (h : v.ok) : (startY (decide (v.b = 0)) (decide (v.c = 0)) v.p.isNone).ev v = v ∧ (startY (decide (v.b = 0)) (decide (v.c = 0)) v.p.isNone).good v := by
  obtain ⟨a, b, c, p⟩ := v
  obtain ⟨h1, h2, h3, h4⟩ := h
  dsimp only at h1 h2 h3
  have e : ∀ x : Int, (Sy.mk true 0).ev x = x := fun x => by unfold Sy.ev; simp
  have f : ∀ x : Int, (if decide (x = 0) = true then z0 else ⟨true, 0⟩ : Sy).ev x = x := fun x => by
    by_cases hx : x = 0
    · rw [if_pos (decide_eq_true hx)]; subst hx; rfl
    · rw [if_neg (by simp [hx])]; exact e x
  have g : ∀ x : Int, 0 ≤ x → (if decide (x = 0) = true then z0 else ⟨true, 0⟩ : Sy).base = true → 0 < x := fun x h0 hx => by
    by_cases hx0 : x = 0
    · rw [if_pos (decide_eq_true hx0)] at hx; cases hx
    · omega
  refine ⟨?_, g b h2, g c h3⟩
  unfold startY SV.ev
  dsimp only
  rw [e, f, f]
  cases p with
  | none => rfl
  | some k => dsimp only [Option.isNone, Option.getD]; rw [if_neg (by decide)]; dsimp only [Option.map]; rw [e]
theorem eqY_all {s t : List C7} (h : eqY s t) {v : Ver} (hv : v.ok) : runV v s = runV v t := by
  obtain ⟨e, g⟩ := start_ev hv
  have := h (decide (v.b = 0)) (decide (v.c = 0)) v.p.isNone
  rw [← e, run_ev s g, run_ev t g, this]
def sampV (a x : Int) (zb zc pn : Bool) : Ver := ⟨a, if zb = true then 0 else x, if zc = true then 0 else x, if pn = true then none else some x⟩
theorem samp_ev {a x : Int} (hx : 0 < x) (zb zc pn : Bool) : (startY zb zc pn).ev (sampV a x zb zc pn) = sampV a x zb zc pn ∧ (startY zb zc pn).good (sampV a x zb zc pn) := by
  have e : ∀ x : Int, (Sy.mk true 0).ev x = x := fun x => by unfold Sy.ev; simp
  refine ⟨?_, ?_, ?_⟩
  · unfold startY SV.ev sampV
    dsimp only
    rw [e]
    cases zb <;> cases zc <;> cases pn <;> simp [e] <;> rfl
  · cases zb
    · intro _; exact hx
    · intro h; cases h
  · cases zc
    · intro _; exact hx
    · intro h; cases h
theorem sy_ev {n : Nat} {x : Int} (hx : (n : Int) < x) {s t : Sy} (h1 : s.k ≤ n) (h2 : t.k ≤ n) (h : s.ev x = t.ev x) : s = t := by
  obtain ⟨b, k⟩ := s
  obtain ⟨b', k'⟩ := t
  unfold Sy.ev at h
  dsimp only at h h1 h2
  cases b <;> cases b' <;> simp at h
  · rw [Int.ofNat.inj h]
  · omega
  · omega
  · rw [Int.ofNat.inj h]
theorem sv_ev {n : Nat} {a x : Int} (hx : (n : Int) < x) {zb zc pn : Bool} {s t : SV} (h1 : s.most n) (h2 : t.most n) (ha : s.a.base = t.a.base) (hs : ∀ s' : SV, s' = s ∨ s' = t → (zb = true → s'.b.base = false) ∧ (zc = true → s'.c.base = false) ∧ (pn = true → ∀ y, s'.p = some y → y.base = false))
    (h : s.ev (sampV a x zb zc pn) = t.ev (sampV a x zb zc pn)) : s = t := by
  obtain ⟨sa, sb, sc, sp⟩ := s
  obtain ⟨ta, tb, tc, tp⟩ := t
  obtain ⟨m1, m2, m3, m4⟩ := h1
  obtain ⟨n1, n2, n3, n4⟩ := h2
  obtain ⟨p1, p2, p3⟩ := hs _ (.inl rfl)
  obtain ⟨q1, q2, q3⟩ := hs _ (.inr rfl)
  dsimp only at m1 m2 m3 m4 n1 n2 n3 n4 p1 p2 p3 q1 q2 q3 ha
  unfold SV.ev at h
  have e1 := congrArg Ver.a h
  have e2 := congrArg Ver.b h
  have e3 := congrArg Ver.c h
  have e4 := congrArg Ver.p h
  dsimp only [sampV] at e1 e2 e3 e4
  have any : ∀ (u v : Sy) (y : Int), u.base = false → v.base = false → u.ev y = v.ev y → u = v := fun u v y hu hv e => by
    obtain ⟨b, k⟩ := u
    obtain ⟨b', k'⟩ := v
    dsimp only at hu hv
    subst hu hv
    simp [Sy.ev] at e
    rw [Int.ofNat.inj e]
  have h1 : sa = ta := by
    obtain ⟨b, k⟩ := sa
    obtain ⟨b', k'⟩ := ta
    dsimp only at ha
    subst ha
    unfold Sy.ev at e1
    dsimp only at e1
    have : k = k' := by split at e1 <;> omega
    rw [this]
  have h2 : sb = tb := by
    cases zb with
    | true => exact any _ _ _ (p1 rfl) (q1 rfl) e2
    | false => exact sy_ev hx m2 n2 (by simpa using e2)
  have h3 : sc = tc := by
    cases zc with
    | true => exact any _ _ _ (p2 rfl) (q2 rfl) e3
    | false => exact sy_ev hx m3 n3 (by simpa using e3)
  have h4 : sp = tp := by
    cases sp with
    | none => cases tp with
      | none => rfl
      | some y => cases e4
    | some u => cases tp with
      | none => cases e4
      | some y =>
        have e4' := Option.some.inj e4
        cases pn with
        | true => rw [any u y _ (p3 rfl u rfl) (q3 rfl y rfl) e4']
        | false => rw [sy_ev hx (m4 u rfl) (n4 y rfl) (by simpa using e4')]
  rw [h1, h2, h3, h4]
theorem step_pbase {s : SV} (h : ∀ y, s.p = some y → y.base = false) (cm : C7) : ∀ y, (stepY s cm).p = some y → y.base = false := by
  obtain ⟨a, b, c, p⟩ := s
  dsimp only at h
  have hq : ∀ y, (if cm.pre = true then some z0 else none) = some y → y.base = false := fun y hy => by
    split at hy
    · cases hy; rfl
    · cases hy
  have hr : ∀ (q : Option Sy) i, (∀ y, q = some y → y.base = false) → ∀ y, (SV.raise ⟨a, b, c, p⟩ q i).p = some y → y.base = false := fun q i hq => by
    match i with
    | 0 => exact hq
    | 1 => exact hq
    | _ + 2 => exact hq
  unfold stepY
  split
  · rename_i k hk
    intro y hy
    cases hy
    exact h k hk
  · dsimp only
    split
    · exact hr _ _ hq
    · exact hq
theorem run_bases : ∀ (s : List C7) {t : SV}, ((runY t s).b.base = true → t.b.base = true) ∧ ((runY t s).c.base = true → t.c.base = true) ∧ ((∀ y, t.p = some y → y.base = false) → ∀ y, (runY t s).p = some y → y.base = false)
  | [], _ => ⟨fun h => h, fun h => h, fun h => h⟩
  | cm :: s, t => by
    have a := run_bases s (t := stepY t cm)
    have b := step_base (s := t) cm
    exact ⟨fun h => b.1 (a.1 h), fun h => b.2.1 (a.2.1 h), fun h => a.2.2 (step_pbase h cm)⟩
theorem eqY_of {s t : List C7} {n : Nat} (hs : s.length ≤ n) (ht : t.length ≤ n) {a x : Int} (hx : (n : Int) < x) (h : ∀ zb zc pn : Bool, runV (sampV a x zb zc pn) s = runV (sampV a x zb zc pn) t) : eqY s t := by
  intro zb zc pn
  obtain ⟨e, g⟩ := samp_ev (a := a) (show 0 < x by omega) zb zc pn
  have h1 := h zb zc pn
  rw [← e, run_ev s g, run_ev t g] at h1
  have m0 : (startY zb zc pn).most 0 := ⟨Nat.le_refl _, by cases zb <;> exact Nat.le_refl _, by cases zc <;> exact Nat.le_refl _, fun y hy => by
    cases pn
    · cases hy; exact Nat.le_refl _
    · cases hy⟩
  have ms : ∀ r : List C7, r.length ≤ n → (runY (startY zb zc pn) r).most n := fun r hr => by
    have := run_most r m0
    rw [Nat.zero_add] at this
    exact ⟨Nat.le_trans this.1 hr, Nat.le_trans this.2.1 hr, Nat.le_trans this.2.2.1 hr, fun y hy => Nat.le_trans (this.2.2.2 y hy) hr⟩
  have bs : ∀ r : List C7, (zb = true → (runY (startY zb zc pn) r).b.base = false) ∧ (zc = true → (runY (startY zb zc pn) r).c.base = false) ∧ (pn = true → ∀ y, (runY (startY zb zc pn) r).p = some y → y.base = false) := fun r => by
    have k := run_bases r (t := startY zb zc pn)
    refine ⟨fun z => ?_, fun z => ?_, fun z => ?_⟩
    · subst z
      cases q : (runY (startY true zc pn) r).b.base with
      | false => rfl
      | true => exact absurd (k.1 q) (fun z => nomatch (show false = true from z))
    · subst z
      cases q : (runY (startY zb true pn) r).c.base with
      | false => rfl
      | true => exact absurd (k.2.1 q) (fun z => nomatch (show false = true from z))
    · subst z
      exact k.2.2 fun y hy => by cases hy
  refine sv_ev (a := a) hx (ms s hs) (ms t ht) ((run_abase s).trans (run_abase t).symm) (fun s' h' => ?_) h1
  rcases h' with rfl | rfl
  · exact bs s
  · exact bs t

/-! ### distances, written out -/
def tl (w : Option Int) (due : Prop) [Decidable due] : Int := match w with
  | some k => k
  | none => if due then 1 else 0
/-- the distance, or -1 -/
def dstV (v w : Ver) : Int :=
  if v.a < w.a then w.a - v.a + w.b + w.c + tl w.p (v.p ≠ none ∧ v.b = 0 ∧ v.c = 0)
  else if w.a < v.a then -1
  else if v.b < w.b then w.b - v.b + w.c + tl w.p (v.p ≠ none ∧ v.c = 0)
  else if w.b < v.b then -1
  else if v.c < w.c then w.c - v.c + tl w.p (v.p ≠ none)
  else if w.c < v.c then -1
  else match v.p, w.p with
    | none, none => 0
    | none, some _ => -1
    | some _, none => 1
    | some j, some k => if k < j then -1 else k - j
theorem sm {x y : Int} (h : x = y) (h0 : 0 ≤ y) : some x = if y < 0 then none else some y := by rw [if_neg (by omega), h]
theorem dst_few {v w : Ver} (hw : w.ok) : fewV v w = if dstV v w < 0 then none else some (dstV v w) := by
  obtain ⟨a, b, c, p⟩ := v
  obtain ⟨a', b', c', p'⟩ := w
  obtain ⟨h1, h2, h3, h4⟩ := hw
  dsimp only at h1 h2 h3 h4
  unfold fewV dstV
  by_cases ha : a < a'
  · have e1 : ¬ cmpV ⟨a', b', c', p'⟩ ⟨a, b, c, p⟩ < 0 := by unfold cmpV; rw [if_pos (by show a' ≠ a; omega), if_neg (by show ¬ a' < a; omega)]; decide
    have e2 : ¬ (⟨a, b, c, p⟩ : Ver) = ⟨a', b', c', p'⟩ := fun e => by cases e; omega
    have e3 : ¬ sameN ⟨a, b, c, p⟩ ⟨a', b', c', p'⟩ := fun e => by have := e.1; dsimp only at this; omega
    rw [if_neg e1, if_neg e2, if_neg e3, if_pos ha]
    unfold raisesV dueV
    rw [if_neg (by show ¬ a' = a; omega)]
    cases p' with
    | some k => have := h4 k rfl; refine sm ?_ ?_ <;> dsimp only [tl] <;> omega
    | none =>
      cases p with
      | none => refine sm ?_ ?_ <;> simp [tl, DD.b2i] <;> omega
      | some j =>
        dsimp only
        rw [if_pos (show a' - a > 0 by omega)]
        by_cases q : b = 0 ∧ c = 0
        · refine sm ?_ ?_ <;> simp [tl, DD.b2i, q.1, q.2] <;> omega
        · have : (decide (b = 0) && decide (c = 0)) = false := by
            cases hh : (decide (b = 0) && decide (c = 0)) with
            | false => rfl
            | true => rw [Bool.and_eq_true, decide_eq_true_eq, decide_eq_true_eq] at hh; exact absurd hh q
          rw [this]
          have e4 : ¬ (some j ≠ none ∧ b = 0 ∧ c = 0) := fun z => q z.2
          refine sm ?_ ?_ <;> (unfold tl; dsimp only [DD.b2i]; rw [if_neg e4]) <;> simp <;> omega
  rw [if_neg ha]
  by_cases ha' : a' < a
  · have e1 : cmpV ⟨a', b', c', p'⟩ ⟨a, b, c, p⟩ < 0 := by unfold cmpV; rw [if_pos (by show a' ≠ a; omega), if_pos (by show a' < a; omega)]; decide
    rw [if_pos e1, if_pos ha', if_pos (by decide)]
  rw [if_neg ha']
  have ea : a' = a := by omega
  subst ea
  by_cases hb : b < b'
  · have e1 : ¬ cmpV ⟨a', b', c', p'⟩ ⟨a', b, c, p⟩ < 0 := by unfold cmpV; rw [if_neg (by simp), if_pos (by show b' ≠ b; omega), if_neg (by show ¬ b' < b; omega)]; decide
    have e2 : ¬ (⟨a', b, c, p⟩ : Ver) = ⟨a', b', c', p'⟩ := fun e => by cases e; omega
    have e3 : ¬ sameN ⟨a', b, c, p⟩ ⟨a', b', c', p'⟩ := fun e => by have := e.2.1; dsimp only at this; omega
    rw [if_neg e1, if_neg e2, if_neg e3, if_pos hb]
    unfold raisesV dueV
    rw [if_pos rfl, if_neg (by show ¬ b' = b; omega)]
    cases p' with
    | some k => have := h4 k rfl; refine sm ?_ ?_ <;> dsimp only [tl] <;> omega
    | none =>
      cases p with
      | none => refine sm ?_ ?_ <;> simp [tl, DD.b2i] <;> omega
      | some j =>
        dsimp only
        rw [if_neg (show ¬ (0 : Int) > 0 by omega), if_pos (show b' - b > 0 by omega)]
        by_cases q : c = 0
        · refine sm ?_ ?_ <;> simp [tl, DD.b2i, q] <;> omega
        · refine sm ?_ ?_ <;> simp [tl, DD.b2i, q] <;> omega
  rw [if_neg hb]
  by_cases hb' : b' < b
  · have e1 : cmpV ⟨a', b', c', p'⟩ ⟨a', b, c, p⟩ < 0 := by unfold cmpV; rw [if_neg (by simp), if_pos (by show b' ≠ b; omega), if_pos (by show b' < b; omega)]; decide
    rw [if_pos e1, if_pos hb', if_pos (by decide)]
  rw [if_neg hb']
  have eb : b' = b := by omega
  subst eb
  by_cases hc : c < c'
  · have e1 : ¬ cmpV ⟨a', b', c', p'⟩ ⟨a', b', c, p⟩ < 0 := by unfold cmpV; rw [if_neg (by simp), if_neg (by simp), if_pos (by show c' ≠ c; omega), if_neg (by show ¬ c' < c; omega)]; decide
    have e2 : ¬ (⟨a', b', c, p⟩ : Ver) = ⟨a', b', c', p'⟩ := fun e => by cases e; omega
    have e3 : ¬ sameN ⟨a', b', c, p⟩ ⟨a', b', c', p'⟩ := fun e => by have := e.2.2; dsimp only at this; omega
    rw [if_neg e1, if_neg e2, if_neg e3, if_pos hc]
    unfold raisesV dueV
    rw [if_pos rfl, if_pos rfl]
    cases p' with
    | some k => have := h4 k rfl; refine sm ?_ ?_ <;> dsimp only [tl] <;> omega
    | none =>
      cases p with
      | none => refine sm ?_ ?_ <;> simp [tl, DD.b2i] <;> omega
      | some j =>
        dsimp only
        rw [if_neg (show ¬ (0 : Int) > 0 by omega), if_neg (show ¬ (0 : Int) > 0 by omega)]
        refine sm ?_ ?_ <;> simp [tl, DD.b2i] <;> omega
  rw [if_neg hc]
  by_cases hc' : c' < c
  · have e1 : cmpV ⟨a', b', c', p'⟩ ⟨a', b', c, p⟩ < 0 := by unfold cmpV; rw [if_neg (by simp), if_neg (by simp), if_pos (by show c' ≠ c; omega), if_pos (by show c' < c; omega)]; decide
    rw [if_pos e1, if_pos hc', if_pos (by decide)]
  rw [if_neg hc']
  have ec : c' = c := by omega
  subst ec
  have e3 : sameN ⟨a', b', c', p⟩ ⟨a', b', c', p'⟩ := ⟨rfl, rfl, rfl⟩
  rw [if_pos e3]
  cases p with
  | none => cases p' with
    | none =>
      have ec : cmpV ⟨a', b', c', none⟩ ⟨a', b', c', none⟩ = 0 := cmp_eq _
      rw [ec, if_neg (by decide), if_pos rfl]; rfl
    | some k =>
      have ec : cmpV ⟨a', b', c', some k⟩ ⟨a', b', c', none⟩ = -1 := by simp [cmpV]
      rw [ec, if_pos (by decide)]; rfl
  | some j => cases p' with
    | none =>
      have ec : cmpV ⟨a', b', c', none⟩ ⟨a', b', c', some j⟩ = 1 := by simp [cmpV]
      rw [ec, if_neg (by decide), if_neg (by simp)]; rfl
    | some k =>
      have ec : cmpV ⟨a', b', c', some k⟩ ⟨a', b', c', some j⟩ = if k = j then 0 else if k < j then -1 else 1 := by simp [cmpV]
      by_cases e : k = j
      · subst e
        rw [ec, if_pos rfl, if_neg (by decide), if_pos rfl]
        refine sm ?_ ?_ <;> (dsimp only; rw [if_neg (Int.lt_irrefl k)]; omega)
      · rw [ec, if_neg e]
        by_cases l : k < j
        · rw [if_pos l, if_pos (by decide)]
          refine (if_pos ?_).symm
          dsimp only
          rw [if_pos l]; decide
        · rw [if_neg l, if_neg (by decide), if_neg (by intro z; cases z; exact e rfl)]
          refine sm ?_ ?_ <;> (dsimp only; rw [if_neg l]; first | rfl | omega)
theorem dst_nn {v w : Ver} (hv : v.ok) (hw : w.ok) (h : dstV v w = 0) : v = w := by
  obtain ⟨a, b, c, p⟩ := v
  obtain ⟨a', b', c', p'⟩ := w
  obtain ⟨h1, h2, h3, h4⟩ := hw
  obtain ⟨k1, k2, k3, k4⟩ := hv
  dsimp only at h1 h2 h3 h4 k1 k2 k3 k4
  have tn : ∀ (P : Prop) [Decidable P], 0 ≤ tl p' P := fun P _ => by
    unfold tl
    cases p' with
    | none => dsimp only; split <;> decide
    | some k => exact h4 k rfl
  unfold dstV at h
  dsimp only at h
  have t1 := tn (p ≠ none ∧ b = 0 ∧ c = 0)
  have t2 := tn (p ≠ none ∧ c = 0)
  have t3 := tn (p ≠ none)
  by_cases ha : a < a'
  · rw [if_pos ha] at h; omega
  rw [if_neg ha] at h
  by_cases ha' : a' < a
  · rw [if_pos ha'] at h; omega
  rw [if_neg ha'] at h
  by_cases hb : b < b'
  · rw [if_pos hb] at h; omega
  rw [if_neg hb] at h
  by_cases hb' : b' < b
  · rw [if_pos hb'] at h; omega
  rw [if_neg hb'] at h
  by_cases hc : c < c'
  · rw [if_pos hc] at h; omega
  rw [if_neg hc] at h
  by_cases hc' : c' < c
  · rw [if_pos hc'] at h; omega
  rw [if_neg hc'] at h
  have e1 : a = a' := by omega
  have e2 : b = b' := by omega
  have e3 : c = c' := by omega
  subst e1 e2 e3
  cases p with
  | none => cases p' with
    | none => rfl
    | some k => cases h
  | some j => cases p' with
    | none => cases h
    | some k =>
      dsimp only at h
      split at h
      · cases h
      · rw [show j = k by omega]
theorem dst_self (v : Ver) : dstV v v = 0 := by
  unfold dstV
  rw [if_neg (by omega), if_neg (by omega), if_neg (by omega), if_neg (by omega), if_neg (by omega), if_neg (by omega)]
  cases v.p with
  | none => rfl
  | some k => dsimp only; rw [if_neg (by omega)]; omega

theorem st_r0 (a b c : Int) : stepV ⟨a, b, c, none⟩ .major = ⟨a + 1, 0, 0, none⟩ := rfl
theorem st_r1 (a b c : Int) : stepV ⟨a, b, c, none⟩ .minor = ⟨a, b + 1, 0, none⟩ := rfl
theorem st_r2 (a b c : Int) : stepV ⟨a, b, c, none⟩ .patch = ⟨a, b, c + 1, none⟩ := rfl
theorem st_p0 (a b c k : Int) : stepV ⟨a, b, c, some k⟩ .major = if b = 0 ∧ c = 0 then ⟨a, b, c, none⟩ else ⟨a + 1, 0, 0, none⟩ := by
  rw [stepV_maj]
  have e : Ver.zero ⟨a, b, c, some k⟩ 0 = decide (b = 0 ∧ c = 0) := by rw [Bool.decide_and]; rfl
  rw [e]
  by_cases h : b = 0 ∧ c = 0
  · rw [decide_eq_true h, if_neg (by decide), if_pos h]
  · rw [decide_eq_false h, if_pos rfl, if_neg h]; rfl
theorem st_p1 (a b c k : Int) : stepV ⟨a, b, c, some k⟩ .minor = if c = 0 then ⟨a, b, c, none⟩ else ⟨a, b + 1, 0, none⟩ := by
  rw [stepV_min]
  have e : Ver.zero ⟨a, b, c, some k⟩ 1 = decide (c = 0) := rfl
  rw [e]
  by_cases h : c = 0
  · rw [decide_eq_true h, if_neg (by decide), if_pos h]
  · rw [decide_eq_false h, if_pos rfl, if_neg h]; rfl
theorem st_p2 (a b c k : Int) : stepV ⟨a, b, c, some k⟩ .patch = ⟨a, b, c, none⟩ := rfl
theorem st_3 (a b c : Int) (p : Option Int) : stepV ⟨a, b, c, p⟩ .premajor = ⟨a + 1, 0, 0, some 0⟩ := by cases p <;> rfl
theorem st_4 (a b c : Int) (p : Option Int) : stepV ⟨a, b, c, p⟩ .preminor = ⟨a, b + 1, 0, some 0⟩ := by cases p <;> rfl
theorem st_5 (a b c : Int) (p : Option Int) : stepV ⟨a, b, c, p⟩ .prepatch = ⟨a, b, c + 1, some 0⟩ := by cases p <;> rfl
theorem st_r6 (a b c : Int) : stepV ⟨a, b, c, none⟩ .prerelease = ⟨a, b, c + 1, some 0⟩ := rfl
theorem st_p6 (a b c k : Int) : stepV ⟨a, b, c, some k⟩ .prerelease = ⟨a, b, c, some (k + 1)⟩ := rfl
theorem d_rr (a b c a' b' c' : Int) : dstV ⟨a, b, c, none⟩ ⟨a', b', c', none⟩ = if a < a' then a' - a + b' + c' else if a' < a then -1 else if b < b' then b' - b + c' else if b' < b then -1 else if c < c' then c' - c else if c' < c then -1 else 0 := by
  simp [dstV, tl]
theorem d_rp (a b c a' b' c' k : Int) : dstV ⟨a, b, c, none⟩ ⟨a', b', c', some k⟩ = if a < a' then a' - a + b' + c' + k else if a' < a then -1 else if b < b' then b' - b + c' + k else if b' < b then -1 else if c < c' then c' - c + k else if c' < c then -1 else -1 := by
  simp [dstV, tl]
theorem d_pr (a b c j a' b' c' : Int) : dstV ⟨a, b, c, some j⟩ ⟨a', b', c', none⟩ = if a < a' then a' - a + b' + c' + (if b = 0 ∧ c = 0 then 1 else 0) else if a' < a then -1 else if b < b' then b' - b + c' + (if c = 0 then 1 else 0) else if b' < b then -1 else if c < c' then c' - c + 1 else if c' < c then -1 else 1 := by
  simp [dstV, tl]
theorem d_pp (a b c j a' b' c' k : Int) : dstV ⟨a, b, c, some j⟩ ⟨a', b', c', some k⟩ = if a < a' then a' - a + b' + c' + k else if a' < a then -1 else if b < b' then b' - b + c' + k else if b' < b then -1 else if c < c' then c' - c + k else if c' < c then -1 else if k < j then -1 else k - j := by
  simp [dstV, tl]
/-- one command lowers the distance by at most 1 -/
theorem dst_step {v w : Ver} (hv : v.ok) (hw : w.ok) (cm : C7) : dstV (stepV v cm) w = -1 ∨ (0 ≤ dstV v w ∧ dstV v w ≤ dstV (stepV v cm) w + 1) := by
  obtain ⟨a, b, c, p⟩ := v
  obtain ⟨a', b', c', p'⟩ := w
  obtain ⟨h1, h2, h3, h4⟩ := hw
  obtain ⟨k1, k2, k3, k4⟩ := hv
  dsimp only at h1 h2 h3 h4 k1 k2 k3 k4
  cases p with
  | none =>
    cases p' with
    | none =>
      clear h4 k4
      cases cm
      all_goals
        simp only [st_r0, st_r1, st_r2, st_3, st_4, st_5, st_r6, d_rr, d_rp, d_pr, d_pp, and_self, if_true]
        omega
    | some k =>
      have := h4 k rfl
      clear h4 k4
      cases cm
      all_goals
        simp only [st_r0, st_r1, st_r2, st_3, st_4, st_5, st_r6, d_rr, d_rp, d_pr, d_pp, and_self, if_true]
        omega
  | some j =>
    have := k4 j rfl
    cases p' with
    | none =>
      clear h4 k4
      cases cm
      all_goals
        simp only [st_p0, st_p1, st_p2, st_3, st_4, st_5, st_p6]
        (try split) <;> (simp only [d_rr, d_rp, d_pr, d_pp, and_self, if_true]; omega)
    | some k =>
      have := h4 k rfl
      clear h4 k4
      cases cm
      all_goals
        simp only [st_p0, st_p1, st_p2, st_3, st_4, st_5, st_p6]
        (try split) <;> (simp only [d_rr, d_rp, d_pr, d_pp, and_self, if_true]; omega)
theorem dst_tri {u v w : Ver} (hu : u.ok) (hv : v.ok) (hw : w.ok) (h1 : 0 ≤ dstV u v) (h2 : 0 ≤ dstV v w) : 0 ≤ dstV u w ∧ dstV u w ≤ dstV u v + dstV v w := by
  obtain ⟨a, b, c, p⟩ := u
  obtain ⟨a', b', c', p'⟩ := v
  obtain ⟨a'', b'', c'', p''⟩ := w
  obtain ⟨g1, g2, g3, g4⟩ := hu
  obtain ⟨k1, k2, k3, k4⟩ := hv
  obtain ⟨l1, l2, l3, l4⟩ := hw
  dsimp only at g1 g2 g3 g4 k1 k2 k3 k4 l1 l2 l3 l4
  have q1 : ∀ k, p = some k → 0 ≤ k := g4
  have q2 : ∀ k, p' = some k → 0 ≤ k := k4
  have q3 : ∀ k, p'' = some k → 0 ≤ k := l4
  clear g4 k4 l4
  cases p <;> cases p' <;> cases p'' <;>
    (simp only [Option.some.injEq, forall_eq', reduceCtorEq, false_implies, implies_true] at q1 q2 q3; simp only [d_rr, d_rp, d_pr, d_pp] at *; omega)

def kZ (b c : Int) (p : Option Int) : Int := if p = none then 0 else if c = 0 then (if b = 0 then 3 else 2) else 1
theorem kZ_rng (b c : Int) (p : Option Int) : 0 ≤ kZ b c p ∧ kZ b c p ≤ 3 := by
  unfold kZ
  repeat' split
  all_goals omega
/-- the number that stands for one part -/
def freeZ (q m : Int) : Int := if m > 0 then (if q = 0 then m * (m + 1) / 2 else if q = 1 then m else 1) else 0
def dueZ (k q : Int) : Int := if k > 2 - q then 1 else 0
def relZ (k n : Int) : Int := freeZ 0 (n - dueZ k 0) + freeZ 1 (n - dueZ k 1) + freeZ 2 (n - dueZ k 2)
def sameZ (k n : Int) : Int := (if k > 0 then 1 else 0) + (if k > 0 ∧ n = 1 then 1 else 0)
def cntZ (k n : Int) : Int := if n = 0 then 1 else (n + 2) * (n + 1) * n / 6 + (n + 1) * n / 2 + n + relZ k n + sameZ k n
theorem due0 {a b c : Int} {p : Option Int} : f_is_due [vD a b c p, .tuple [.int 1, .int 0, .int 0]] = some (.bool (decide (kZ b c p > 2))) := by
  refine callP_of rfl ?_
  unfold g_is_due kZ
  cases p with
  | none =>
    dsimp only [vD, pd]
    repeat infer_instance
    rfl
  | some k =>
    dsimp only [vD, pd]
    repeat' first | infer_instance | refine ifb_d (fun _ => ?_) (fun _ => ?_)
    all_goals (simp_all [outD]; try (split <;> omega))
theorem due1 {a b c : Int} {p : Option Int} : f_is_due [vD a b c p, .tuple [.int 0, .int 1, .int 0]] = some (.bool (decide (kZ b c p > 1))) := by
  refine callP_of rfl ?_
  unfold g_is_due kZ
  cases p with
  | none =>
    dsimp only [vD, pd]
    repeat infer_instance
    rfl
  | some k =>
    dsimp only [vD, pd]
    repeat' first | infer_instance | refine ifb_d (fun _ => ?_) (fun _ => ?_)
    all_goals (simp_all [outD]; try (split <;> omega))
theorem due2 {a b c : Int} {p : Option Int} : f_is_due [vD a b c p, .tuple [.int 0, .int 0, .int 1]] = some (.bool (decide (kZ b c p > 0))) := by
  refine callP_of rfl ?_
  unfold g_is_due kZ
  cases p with
  | none =>
    dsimp only [vD, pd]
    repeat infer_instance
    rfl
  | some k =>
    dsimp only [vD, pd]
    repeat' first | infer_instance | refine ifb_d (fun _ => ?_) (fun _ => ?_)
    all_goals (simp_all [outD]; try (split <;> (try split) <;> omega))
theorem releases_of {a b c n : Int} {p : Option Int} (h0 : 0 < n) (h1 : n < 1000000000) : f_releases [vD a b c p, .int n] = some (.int (relZ (kZ b c p) n)) := by
  refine callP_of rfl ?_
  unfold g_releases
  have e0 : ∀ {K : D → Prop}, K (.bool (decide (kZ b c p > 2))) → C1 f_is_due [vD a b c p, .tuple [.int 1, .int 0, .int 0]] K := fun k => ⟨_, due0, k⟩
  have e1 : ∀ {K : D → Prop}, K (.bool (decide (kZ b c p > 1))) → C1 f_is_due [vD a b c p, .tuple [.int 0, .int 1, .int 0]] K := fun k => ⟨_, due1, k⟩
  have e2 : ∀ {K : D → Prop}, K (.bool (decide (kZ b c p > 0))) → C1 f_is_due [vD a b c p, .tuple [.int 0, .int 0, .int 1]] K := fun k => ⟨_, due2, k⟩
  have hk := kZ_rng b c p
  generalize kZ b c p = k at *
  generalize pd p = pp at *
  rcases (show k = 0 ∨ k = 1 ∨ k = 2 ∨ k = 3 by omega) with rfl | rfl | rfl | rfl
  all_goals rcases (show n = 1 ∨ n ≥ 2 by omega) with rfl | h2
  all_goals (repeat' first | infer_instance | refine e0 ?_ | refine e1 ?_ | refine e2 ?_ | refine loop_c ?_ | refine loop_n ?_)
  all_goals refine congrArg (fun x => some (PyData.int x)) ?_
  all_goals simp (config := { decide := true }) only [relZ, freeZ, dueZ, if_true, if_false, Int.sub_zero, Int.zero_add, Int.reduceSub, Int.reduceGT, Int.reduceLT]
  all_goals try rw [if_pos (by omega)]
  all_goals try rw [if_pos (by omega)]
  all_goals try rw [if_pos (by omega)]

theorem count_of {a b c n : Int} {p : Option Int} (h0 : 0 ≤ n) (h1 : n < 1000000000) : f_count_at [vD a b c p, .int n] = some (.int (cntZ (kZ b c p) n)) := by
  refine callP_of rfl ?_
  unfold g_count_at
  by_cases hz : n = 0
  · subst hz
    repeat infer_instance
    rfl
  have e0 : ∀ {K : D → Prop}, K (.int (relZ (kZ b c p) n)) → C1 f_releases [vD a b c p, .int n] K := fun k => ⟨_, releases_of (by omega) h1, k⟩
  have hs : sameZ (kZ b c p) n = (if p = none then 0 else if n = 1 then 2 else 1) := by
    unfold sameZ kZ
    repeat' split
    all_goals simp_all
  cases p with
  | none =>
    dsimp only [vD, pd] at *
    repeat' first | infer_instance | refine e0 ?_
    refine congrArg (fun x => some (PyData.int x)) ?_
    unfold cntZ
    rw [if_neg hz, hs, if_pos rfl]
    omega
  | some k =>
    dsimp only [vD, pd] at *
    by_cases h : n = 1
    · repeat' first | infer_instance | refine e0 ?_
      refine congrArg (fun x => some (PyData.int x)) ?_
      unfold cntZ
      rw [if_neg hz, hs, if_neg (by simp), if_pos h]
      omega
    · repeat' first | infer_instance | refine e0 ?_
      refine congrArg (fun x => some (PyData.int x)) ?_
      unfold cntZ
      rw [if_neg hz, hs, if_neg (by simp), if_neg h]
      omega

theorem desc {v w : Ver} (hv : v.ok) (hw : w.ok) (h : 0 < dstV v w) : ∃ cm, dstV (stepV v cm) w = dstV v w - 1 := by
  obtain ⟨a, b, c, p⟩ := v
  obtain ⟨a', b', c', p'⟩ := w
  obtain ⟨h1, h2, h3, h4⟩ := hw
  obtain ⟨k1, k2, k3, k4⟩ := hv
  dsimp only at h1 h2 h3 h4 k1 k2 k3 k4
  cases p with
  | none =>
    cases p' with
    | none =>
      rw [d_rr] at h ⊢
      by_cases ha : a < a'
      · refine ⟨.major, ?_⟩
        rw [st_r0, d_rr]
        (repeat' split) <;> omega
      · by_cases hb : b < b'
        · refine ⟨.minor, ?_⟩
          rw [st_r1, d_rr]
          rw [if_neg ha] at h ⊢
          (repeat' split) <;> (first | omega | (exfalso; split at h <;> omega))
        · refine ⟨.patch, ?_⟩
          rw [st_r2, d_rr]
          rw [if_neg ha] at h ⊢
          (repeat' split) <;> (first | omega | (exfalso; split at h <;> omega))
    | some k =>
      have hk := h4 k rfl
      rw [d_rp] at h ⊢
      by_cases ha : a < a'
      · refine ⟨.premajor, ?_⟩
        rw [st_3, d_pp]
        (repeat' split) <;> omega
      · by_cases hb : b < b'
        · refine ⟨.preminor, ?_⟩
          rw [st_4, d_pp]
          rw [if_neg ha] at h ⊢
          (repeat' split) <;> (first | omega | (exfalso; split at h <;> omega))
        · refine ⟨.prepatch, ?_⟩
          rw [st_5, d_pp]
          rw [if_neg ha] at h ⊢
          (repeat' split) <;> (first | omega | (exfalso; (repeat' split at h) <;> omega))
  | some j =>
    have hj := k4 j rfl
    cases p' with
    | none =>
      rw [d_pr] at h ⊢
      by_cases ha : a < a'
      · refine ⟨.major, ?_⟩
        rw [st_p0, if_pos ha]
        by_cases hd : b = 0 ∧ c = 0
        · rw [if_pos hd, if_pos hd, d_rr]
          (repeat' split) <;> omega
        · rw [if_neg hd, if_neg hd, d_rr]
          (repeat' split) <;> omega
      · rw [if_neg ha] at h ⊢
        by_cases hb : b < b'
        · refine ⟨.minor, ?_⟩
          rw [st_p1, if_pos hb]
          rw [if_pos hb] at h
          by_cases hd : c = 0
          · rw [if_pos hd, if_pos hd, d_rr]
            (repeat' split) <;> (first | omega | (exfalso; (repeat' split at h) <;> omega))
          · rw [if_neg hd, if_neg hd, d_rr]
            (repeat' split) <;> (first | omega | (exfalso; (repeat' split at h) <;> omega))
        · refine ⟨.patch, ?_⟩
          rw [st_p2, d_rr]
          rw [if_neg hb] at h ⊢
          (repeat' split) <;> (first | omega | (exfalso; (repeat' split at h) <;> omega))
    | some k =>
      have hk := h4 k rfl
      rw [d_pp] at h ⊢
      by_cases ha : a < a'
      · refine ⟨.premajor, ?_⟩
        rw [st_3, d_pp]
        (repeat' split) <;> omega
      · rw [if_neg ha] at h ⊢
        by_cases hb : b < b'
        · refine ⟨.preminor, ?_⟩
          rw [st_4, d_pp]
          (repeat' split) <;> (first | omega | (exfalso; (repeat' split at h) <;> omega))
        · by_cases hc : c < c'
          · refine ⟨.prepatch, ?_⟩
            rw [st_5, d_pp]
            (repeat' split) <;> (first | omega | (exfalso; (repeat' split at h) <;> omega))
          · refine ⟨.prerelease, ?_⟩
            rw [st_p6, d_pp]
            (repeat' split) <;> (first | omega | (exfalso; (repeat' split at h) <;> omega))
theorem ends_ok : ∀ (n : Nat) {v w : Ver}, v.ok → w ∈ endsV v n → w.ok
  | 0, v, w, hv, h => by rw [List.mem_singleton.mp h]; exact hv
  | n + 1, v, w, hv, h => by
    rw [ends_front] at h
    obtain ⟨cm, _, h⟩ := List.mem_flatMap.mp h
    exact ends_ok n (stepV_ok hv cm) h
theorem ends_dst : ∀ (n : Nat) {v w : Ver}, v.ok → w.ok → w ∈ endsV v n → 0 ≤ dstV v w ∧ dstV v w ≤ n
  | 0, v, w, hv, hw, h => by
    rw [List.mem_singleton.mp h, dst_self]; exact ⟨Int.le_refl _, Int.le_refl _⟩
  | n + 1, v, w, hv, hw, h => by
    rw [ends_front] at h
    obtain ⟨cm, _, h⟩ := List.mem_flatMap.mp h
    have h1 := ends_dst n (stepV_ok hv cm) hw h
    have h2 := dst_step hv hw cm
    omega
theorem mem7 (cm : C7) : cm ∈ all7 := by cases cm <;> decide
theorem ends_at : ∀ (n : Nat) {v w : Ver}, v.ok → w.ok → dstV v w = n → w ∈ endsV v n
  | 0, v, w, hv, hw, h => by rw [dst_nn hv hw h]; exact List.mem_singleton.mpr rfl
  | n + 1, v, w, hv, hw, h => by
    obtain ⟨cm, hc⟩ := desc hv hw (by omega)
    rw [ends_front]
    exact List.mem_flatMap.mpr ⟨cm, mem7 cm, ends_at n (stepV_ok hv cm) hw (by omega)⟩
/-! the program's layers -/
def addW (l : List Ver) (w : Ver) : List Ver := if w ∈ l then l else l ++ [w]
def collC (v : Ver) (d : Int) (own : Ver) (acc : List Ver) (cm : C7) : List Ver := if dstV v (stepV own cm) = d then addW acc (stepV own cm) else acc
def collO (v : Ver) (d : Int) (acc : List Ver) (own : Ver) : List Ver := all7.foldl (collC v d own) acc
def coll (v : Ver) (d : Int) (L : List Ver) : List Ver := L.foldl (collO v d) []
def leV (a b : Ver) : Bool := !decide (cmpV b a = -1)
def eachV (v : Ver) : Nat → List Ver
  | 0 => [v]
  | n + 1 => (coll v ((n + 1 : Nat) : Int) (eachV v n)).mergeSort leV
theorem addW_mem {l : List Ver} {w u : Ver} : u ∈ addW l w ↔ u ∈ l ∨ u = w := by
  unfold addW
  split
  · rename_i h
    exact ⟨.inl, fun z => z.elim id fun e => e ▸ h⟩
  · rw [List.mem_append, List.mem_singleton]
theorem addW_nod {l : List Ver} {w : Ver} (h : l.Nodup) : (addW l w).Nodup := by
  unfold addW
  split
  · exact h
  · rename_i g
    rw [List.nodup_append]
    exact ⟨h, by simp, fun a ha b hb => by rw [List.mem_singleton] at hb; subst hb; exact fun e => g (e ▸ ha)⟩
theorem collC_mem {v own u : Ver} {d : Int} {acc : List Ver} {cm : C7} : u ∈ collC v d own acc cm ↔ u ∈ acc ∨ (u = stepV own cm ∧ dstV v u = d) := by
  unfold collC
  split
  · rename_i h
    rw [addW_mem]
    exact ⟨fun z => z.imp id fun e => ⟨e, by rw [e]; exact h⟩, fun z => z.imp id fun e => e.1⟩
  · rename_i h
    exact ⟨.inl, fun z => z.elim id fun e => absurd (e.1 ▸ e.2) h⟩
theorem collF_mem {v own u : Ver} {d : Int} : ∀ (cs : List C7) (acc : List Ver), u ∈ cs.foldl (collC v d own) acc ↔ u ∈ acc ∨ ∃ cm ∈ cs, u = stepV own cm ∧ dstV v u = d
  | [], acc => by simp
  | cm :: cs, acc => by
    rw [List.foldl_cons, collF_mem cs, collC_mem]
    constructor
    · rintro ((h | h) | ⟨c, m, h⟩)
      · exact .inl h
      · exact .inr ⟨cm, List.mem_cons_self, h⟩
      · exact .inr ⟨c, List.mem_cons_of_mem _ m, h⟩
    · rintro (h | ⟨c, m, h⟩)
      · exact .inl (.inl h)
      · rcases List.mem_cons.mp m with rfl | m
        · exact .inl (.inr h)
        · exact .inr ⟨c, m, h⟩
theorem collA_mem {v u : Ver} {d : Int} : ∀ (L acc : List Ver), u ∈ L.foldl (collO v d) acc ↔ u ∈ acc ∨ ∃ own ∈ L, ∃ cm, u = stepV own cm ∧ dstV v u = d
  | [], acc => by simp
  | own :: L, acc => by
    rw [List.foldl_cons, collA_mem L]
    unfold collO
    rw [collF_mem]
    constructor
    · rintro ((h | ⟨c, _, h⟩) | ⟨o, m, c, h⟩)
      · exact .inl h
      · exact .inr ⟨own, List.mem_cons_self, c, h⟩
      · exact .inr ⟨o, List.mem_cons_of_mem _ m, c, h⟩
    · rintro (h | ⟨o, m, c, h⟩)
      · exact .inl (.inl h)
      · rcases List.mem_cons.mp m with rfl | m
        · exact .inl (.inr ⟨c, mem7 c, h⟩)
        · exact .inr ⟨o, m, c, h⟩
theorem coll_nod {v : Ver} {d : Int} (L : List Ver) : (coll v d L).Nodup := by
  have h1 : ∀ (own : Ver) (cs : List C7) (acc : List Ver), acc.Nodup → (cs.foldl (collC v d own) acc).Nodup := fun own cs => by
    induction cs with
    | nil => intro acc h; exact h
    | cons cm cs ih =>
      intro acc h
      rw [List.foldl_cons]
      refine ih _ ?_
      unfold collC
      split
      · exact addW_nod h
      · exact h
  have h2 : ∀ (L acc : List Ver), acc.Nodup → (L.foldl (collO v d) acc).Nodup := fun L => by
    induction L with
    | nil => intro acc h; exact h
    | cons own L ih => intro acc h; rw [List.foldl_cons]; exact ih _ (h1 own all7 acc h)
  exact h2 L [] List.nodup_nil
theorem each_mem {v : Ver} (hv : v.ok) : ∀ (n : Nat) {w : Ver}, w ∈ eachV v n ↔ w ∈ endsV v n ∧ dstV v w = n
  | 0, w => by
    show w ∈ [v] ↔ w ∈ [v] ∧ dstV v w = 0
    constructor
    · intro h
      refine ⟨h, ?_⟩
      rw [List.mem_singleton.mp h, dst_self]
    · exact fun h => h.1
  | n + 1, w => by
    unfold eachV
    rw [(List.mergeSort_perm _ _).mem_iff]
    unfold coll
    rw [collA_mem]
    constructor
    · rintro (h | ⟨own, m, cm, rfl, hd⟩)
      · cases h
      · refine ⟨mem_ends.mpr ⟨own, ((each_mem hv n).mp m).1, List.mem_map.mpr ⟨cm, mem7 cm, rfl⟩⟩, hd⟩
    · rintro ⟨h, hd⟩
      obtain ⟨u, hu, hw⟩ := mem_ends.mp h
      obtain ⟨cm, _, rfl⟩ := List.mem_map.mp hw
      have huo := ends_ok n hv hu
      have hwo := stepV_ok huo cm
      have h1 := ends_dst n hv huo hu
      have h2 := ends_dst 1 huo hwo (by rw [ends_front]; exact List.mem_flatMap.mpr ⟨cm, mem7 cm, List.mem_singleton.mpr rfl⟩)
      have h3 := dst_tri hv huo hwo h1.1 h2.1
      exact .inr ⟨u, (each_mem hv n).mpr ⟨hu, by omega⟩, cm, rfl, hd⟩
theorem each_nod (v : Ver) : ∀ n, (eachV v n).Nodup
  | 0 => by unfold eachV; simp
  | n + 1 => by
    unfold eachV
    exact (List.mergeSort_perm _ _).nodup_iff.mpr (coll_nod _)
theorem leV_tr (a b c : Ver) (h1 : leV a b = true) (h2 : leV b c = true) : leV a c = true := by
  unfold leV at *
  rw [Bool.not_eq_true', decide_eq_false_iff_not] at *
  have n1 := cmp_neg a b
  have n2 := cmp_neg b c
  have n3 := cmp_neg a c
  have c1 := cmp_cases a b
  have c2 := cmp_cases b c
  have t := cmp_trans a b c (by omega) (by omega)
  omega
theorem leV_tot (a b : Ver) : (leV a b || leV b a) = true := by
  unfold leV
  have n1 := cmp_neg a b
  have c1 := cmp_cases a b
  rw [Bool.or_eq_true, Bool.not_eq_true', Bool.not_eq_true', decide_eq_false_iff_not, decide_eq_false_iff_not]
  omega
theorem leV_anti {a b : Ver} (h1 : leV a b = true) (h2 : leV b a = true) : a = b := by
  unfold leV at *
  rw [Bool.not_eq_true', decide_eq_false_iff_not] at *
  by_cases e : a = b
  · exact e
  · have := cmp_ne e
    have := cmp_neg a b
    omega
theorem each_sorted (v : Ver) : ∀ n, (eachV v n).Pairwise fun a b => leV a b = true
  | 0 => by unfold eachV; simp
  | n + 1 => by
    unfold eachV
    exact List.pairwise_mergeSort leV_tr leV_tot _
/-- the law's layer, sorted, is the program's -/
theorem lay_each {v : Ver} (hv : v.ok) (n : Nat) : ((layS v n).2.1.map (·.1)).mergeSort leV = eachV v n := by
  have hm : ∀ w, w ∈ (layS v n).2.1.map (·.1) ↔ w ∈ eachV v n := fun w => by
    rw [← look_none, (layS_spec v n).1 w, each_mem hv n]
    constructor
    · rintro ⟨h1, h2⟩
      refine ⟨h1, ?_⟩
      have ho := ends_ok n hv h1
      have h3 := ends_dst n hv ho h1
      by_cases q : dstV v w = n
      · exact q
      · exact absurd (ends_at (dstV v w).toNat hv ho (by omega)) (h2 _ (by omega))
    · rintro ⟨h1, h2⟩
      refine ⟨h1, fun j hj hw => ?_⟩
      have := ends_dst j hv (ends_ok n hv h1) hw
      omega
  have p : ((layS v n).2.1.map (·.1)).Perm (eachV v n) := (List.perm_ext_iff_of_nodup (layS_nod v n) (each_nod v n)).mpr hm
  exact List.Perm.eq_of_pairwise (fun a b _ _ h1 h2 => leV_anti h1 h2) (List.pairwise_mergeSort leV_tr leV_tot _) (each_sorted v n) ((List.mergeSort_perm _ _).trans p)
/-! how many -/
def addY (seen acc : List SV) (y : SV) : List SV := if y ∈ seen ∨ y ∈ acc then acc else acc ++ [y]
def newY (seen last : List SV) : List SV := (last.flatMap fun y => all7.map (stepY y)).foldl (addY seen) []
def layY (s : SV) : Nat → List SV × List SV
  | 0 => ([s], [s])
  | n + 1 => let r := layY s n; let l := newY r.2 r.1; (l, r.2 ++ l)
theorem addY_mem {seen : List SV} {u : SV} : ∀ (ys acc : List SV), u ∈ ys.foldl (addY seen) acc ↔ u ∈ acc ∨ (u ∈ ys ∧ u ∉ seen)
  | [], acc => by simp
  | y :: ys, acc => by
    rw [List.foldl_cons, addY_mem ys]
    unfold addY
    by_cases h : y ∈ seen ∨ y ∈ acc
    · rw [if_pos h]
      constructor
      · rintro (q | ⟨q1, q2⟩)
        · exact .inl q
        · exact .inr ⟨List.mem_cons_of_mem _ q1, q2⟩
      · rintro (q | ⟨q1, q2⟩)
        · exact .inl q
        · rcases List.mem_cons.mp q1 with rfl | q1
          · rcases h with h | h
            · exact absurd h q2
            · exact .inl h
          · exact .inr ⟨q1, q2⟩
    · rw [if_neg h, List.mem_append, List.mem_singleton]
      rw [not_or] at h
      constructor
      · rintro ((q | rfl) | ⟨q1, q2⟩)
        · exact .inl q
        · exact .inr ⟨List.mem_cons_self, h.1⟩
        · exact .inr ⟨List.mem_cons_of_mem _ q1, q2⟩
      · rintro (q | ⟨q1, q2⟩)
        · exact .inl (.inl q)
        · rcases List.mem_cons.mp q1 with rfl | q1
          · exact .inl (.inr rfl)
          · exact .inr ⟨q1, q2⟩
theorem addY_nod {seen : List SV} : ∀ (ys acc : List SV), acc.Nodup → (ys.foldl (addY seen) acc).Nodup
  | [], acc, h => h
  | y :: ys, acc, h => by
    rw [List.foldl_cons]
    refine addY_nod ys _ ?_
    unfold addY
    split
    · exact h
    · rename_i g
      rw [not_or] at g
      rw [List.nodup_append]
      exact ⟨h, by simp, fun a ha b hb => by rw [List.mem_singleton] at hb; subst hb; exact fun e => g.2 (e ▸ ha)⟩
theorem layY_nod (s : SV) : ∀ n, (layY s n).1.Nodup
  | 0 => by unfold layY; simp
  | n + 1 => addY_nod _ _ List.nodup_nil
theorem newY_mem {seen last : List SV} {u : SV} : u ∈ newY seen last ↔ (∃ y ∈ last, ∃ cm, u = stepY y cm) ∧ u ∉ seen := by
  unfold newY
  rw [addY_mem]
  constructor
  · rintro (h | ⟨h1, h2⟩)
    · cases h
    · obtain ⟨y, hy, h1⟩ := List.mem_flatMap.mp h1
      obtain ⟨cm, _, rfl⟩ := List.mem_map.mp h1
      exact ⟨⟨y, hy, cm, rfl⟩, h2⟩
  · rintro ⟨⟨y, hy, cm, rfl⟩, h2⟩
    exact .inr ⟨List.mem_flatMap.mpr ⟨y, hy, List.mem_map.mpr ⟨cm, mem7 cm, rfl⟩⟩, h2⟩
theorem layY_seen (s : SV) : ∀ (n : Nat) {y : SV}, y ∈ (layY s n).2 ↔ ∃ j, j ≤ n ∧ y ∈ (layY s j).1
  | 0, y => by
    constructor
    · exact fun h => ⟨0, Nat.le_refl _, h⟩
    · rintro ⟨j, hj, h⟩
      have : j = 0 := by omega
      subst this
      exact h
  | n + 1, y => by
    show y ∈ (layY s n).2 ++ newY (layY s n).2 (layY s n).1 ↔ _
    rw [List.mem_append, layY_seen s n]
    constructor
    · rintro (⟨j, hj, h⟩ | h)
      · exact ⟨j, by omega, h⟩
      · exact ⟨n + 1, Nat.le_refl _, h⟩
    · rintro ⟨j, hj, h⟩
      by_cases e : j = n + 1
      · subst e; exact .inr h
      · exact .inl ⟨j, by omega, h⟩
/-- what holds of all that scripts reach: where a number stands still it stands at its start -/
def invY (zb zc pn : Bool) (y : SV) : Bool := y.a.base && (y.b.base == (y.a.k == 0 && !zb)) && (y.c.base == (y.a.k == 0 && y.b.k == 0 && !zc)) && (match y.p with
  | none => true
  | some q => q.base == (y.a.k == 0 && y.b.k == 0 && y.c.k == 0 && !pn))
theorem inv_inj {zb zc pn : Bool} {v : Ver} {s t : SV} (hs : invY zb zc pn s = true) (ht : invY zb zc pn t = true) (h : s.ev v = t.ev v) : s = t := by
  obtain ⟨⟨ab, ak⟩, ⟨bb, bk⟩, ⟨cb, ck⟩, p⟩ := s
  obtain ⟨⟨ab', ak'⟩, ⟨bb', bk'⟩, ⟨cb', ck'⟩, p'⟩ := t
  unfold invY at hs ht
  simp only [Bool.and_eq_true, beq_iff_eq] at hs ht
  obtain ⟨⟨⟨s1, s2⟩, s3⟩, s4⟩ := hs
  obtain ⟨⟨⟨t1, t2⟩, t3⟩, t4⟩ := ht
  unfold SV.ev Sy.ev at h
  have e1 := congrArg Ver.a h
  have e2 := congrArg Ver.b h
  have e3 := congrArg Ver.c h
  have e4 := congrArg Ver.p h
  dsimp only at e1 e2 e3 e4
  subst s1 t1
  have k1 : ak = ak' := by omega
  subst k1
  rw [s2, t2] at e2
  have k2 : bk = bk' := by omega
  subst k2
  rw [← t2] at s2
  subst s2
  rw [s3, t3] at e3
  have k3 : ck = ck' := by omega
  subst k3
  rw [← t3] at s3
  subst s3
  have k4 : p = p' := by
    cases p with
    | none => cases p' with
      | none => rfl
      | some y => cases e4
    | some u => cases p' with
      | none => cases e4
      | some y =>
        obtain ⟨ub, uk⟩ := u
        obtain ⟨yb, yk⟩ := y
        dsimp only at s4 t4
        simp only [beq_iff_eq] at s4 t4
        have e5 := Option.some.inj e4
        dsimp only at e5
        rw [s4, t4] at e5
        have : uk = yk := by omega
        subst this
        rw [s4, t4]
  rw [k4]
abbrev stY (v : Ver) : SV := startY (decide (v.b = 0)) (decide (v.c = 0)) v.p.isNone
theorem lay_good {v : Ver} (hv : v.ok) : ∀ (n : Nat) {y : SV}, y ∈ (layY (stY v) n).1 → y.good v
  | 0, y, h => by
    rw [List.mem_singleton.mp (show y ∈ [stY v] from h)]
    exact (start_ev hv).2
  | n + 1, y, h => by
    obtain ⟨⟨y', hy, cm, rfl⟩, _⟩ := newY_mem.mp (show y ∈ newY _ _ from h)
    have g := lay_good hv n hy
    have b := step_base (s := y') cm
    exact ⟨fun h => g.1 (b.1 h), fun h => g.2 (b.2.1 h)⟩
theorem lay_mem {v : Ver} (hv : v.ok) (N : Nat) (inv : (layY (stY v) N).2.all (invY (decide (v.b = 0)) (decide (v.c = 0)) v.p.isNone) = true) : ∀ n, n ≤ N → ∀ w, w ∈ eachV v n ↔ ∃ y ∈ (layY (stY v) n).1, y.ev v = w
  | 0, _, w => by
    show w ∈ [v] ↔ ∃ y ∈ [stY v], y.ev v = w
    simp only [List.mem_singleton, exists_eq_left]
    rw [(start_ev hv).1]
    exact ⟨fun h => h.symm, fun h => h.symm⟩
  | n + 1, hn, w => by
    have ih := fun j (hj : j ≤ n) => lay_mem hv N inv j (by omega)
    have all : ∀ y, (∃ j, j ≤ N ∧ y ∈ (layY (stY v) j).1) → invY (decide (v.b = 0)) (decide (v.c = 0)) v.p.isNone y = true := fun y h => List.all_eq_true.mp inv y ((layY_seen _ N).mpr h)
    have dstj : ∀ j, j ≤ n → ∀ y ∈ (layY (stY v) j).1, dstV v (y.ev v) = j := fun j hj y hy => ((each_mem hv j).mp ((ih j hj _).mpr ⟨y, hy, rfl⟩)).2
    constructor
    · intro h
      obtain ⟨_, hd⟩ := (each_mem hv (n + 1)).mp h
      unfold eachV coll at h
      rw [(List.mergeSort_perm _ _).mem_iff, collA_mem] at h
      rcases h with h | ⟨own, m, cm, rfl, _⟩
      · cases h
      obtain ⟨y, hy, rfl⟩ := (ih n (Nat.le_refl _) own).mp m
      have g := lay_good hv n hy
      rw [step_ev g] at hd ⊢
      refine ⟨stepY y cm, newY_mem.mpr ⟨⟨y, hy, cm, rfl⟩, fun z => ?_⟩, rfl⟩
      obtain ⟨j, hj, hz⟩ := (layY_seen _ n).mp z
      have := dstj j hj _ hz
      omega
    · rintro ⟨y, hy, rfl⟩
      obtain ⟨⟨y', hy', cm, rfl⟩, hns⟩ := newY_mem.mp (show y ∈ newY _ _ from hy)
      have g := lay_good hv n hy'
      have m := (ih n (Nat.le_refl _) _).mpr ⟨y', hy', rfl⟩
      obtain ⟨hu, hdu⟩ := (each_mem hv n).mp m
      have huo := ends_ok n hv hu
      have hin : stepV (y'.ev v) cm ∈ endsV v (n + 1) := mem_ends.mpr ⟨_, hu, List.mem_map.mpr ⟨cm, mem7 cm, rfl⟩⟩
      have hwo := stepV_ok huo cm
      have hd := ends_dst (n + 1) hv hwo hin
      rw [← step_ev g, each_mem hv]
      refine ⟨hin, ?_⟩
      by_cases q : dstV v (stepV (y'.ev v) cm) = ((n + 1 : Nat) : Int)
      · exact q
      · exfalso
        have hj : (dstV v (stepV (y'.ev v) cm)).toNat ≤ n := by omega
        obtain ⟨y2, hy2, e⟩ := (ih _ hj (stepV (y'.ev v) cm)).mp ((each_mem hv _).mpr ⟨ends_at _ hv hwo (by omega), by omega⟩)
        rw [step_ev g] at e
        have e2 := inv_inj (all y2 ⟨_, by omega, hy2⟩) (all (stepY y' cm) ⟨n + 1, hn, hy⟩) e
        exact hns ((layY_seen _ n).mpr ⟨_, hj, e2 ▸ hy2⟩)
theorem each_len {v : Ver} (hv : v.ok) (N : Nat) (inv : (layY (stY v) N).2.all (invY (decide (v.b = 0)) (decide (v.c = 0)) v.p.isNone) = true) {n : Nat} (hn : n ≤ N) : (eachV v n).length = (layY (stY v) n).1.length := by
  have hm := lay_mem hv N inv n hn
  have nd : ((layY (stY v) n).1.map fun y => y.ev v).Nodup := by
    refine List.pairwise_map.mpr (List.Pairwise.imp_of_mem (fun {a b} ha hb hne e => ?_) (layY_nod (stY v) n))
    have all : ∀ y ∈ (layY (stY v) n).1, invY (decide (v.b = 0)) (decide (v.c = 0)) v.p.isNone y = true := fun y h => List.all_eq_true.mp inv y ((layY_seen _ N).mpr ⟨n, hn, h⟩)
    exact hne (inv_inj (all a ha) (all b hb) e)
  have p : (eachV v n).Perm ((layY (stY v) n).1.map fun y => y.ev v) := (List.perm_ext_iff_of_nodup (each_nod v n) nd).mpr fun w => by
    rw [hm w, List.mem_map]
  rw [p.length_eq, List.length_map]
def kindY (zb zc pn : Bool) : Int := if pn = true then 0 else if zc = true then (if zb = true then 3 else 2) else 1
theorem chk4 : ∀ zb zc pn : Bool, (layY (startY zb zc pn) 4).2.all (invY zb zc pn) = true ∧ ∀ n, n < 5 → ((layY (startY zb zc pn) n).1.length : Int) = cntZ (kindY zb zc pn) n := by decide +kernel
theorem chk6 : (layY (startY false false true) 6).2.all (invY false false true) = true ∧ ((layY (startY false false true) 6).1.length : Int) = cntZ (kindY false false true) 6 := by decide +kernel
theorem kind_eq (v : Ver) : kZ v.b v.c v.p = kindY (decide (v.b = 0)) (decide (v.c = 0)) v.p.isNone := by
  obtain ⟨a, b, c, p⟩ := v
  unfold kZ kindY
  cases p <;> simp
theorem each_count {v : Ver} (hv : v.ok) {n : Nat} (hn : n ≤ 4) : ((eachV v n).length : Int) = cntZ (kZ v.b v.c v.p) n := by
  obtain ⟨h1, h2⟩ := chk4 (decide (v.b = 0)) (decide (v.c = 0)) v.p.isNone
  rw [each_len hv 4 h1 hn, h2 n (by omega), kind_eq]
theorem each_few (v : Ver) : ∀ n, (eachV v n).length ≤ 7 ^ n
  | 0 => by simp [eachV]
  | n + 1 => by
    unfold eachV
    rw [(List.mergeSort_perm _ _).length_eq]
    have ih := each_few v n
    have h1 : ∀ (own : Ver) (cs : List C7) (acc : List Ver), (cs.foldl (collC v ((n + 1 : Nat) : Int) own) acc).length ≤ acc.length + cs.length := fun own cs => by
      induction cs with
      | nil => intro acc; exact Nat.le_refl _
      | cons cm cs ih =>
        intro acc
        rw [List.foldl_cons]
        have := ih (collC v ((n + 1 : Nat) : Int) own acc cm)
        have h : (collC v ((n + 1 : Nat) : Int) own acc cm).length ≤ acc.length + 1 := by
          unfold collC addW
          (repeat' split) <;> simp
        rw [List.length_cons]
        omega
    have h2 : ∀ (L acc : List Ver), (L.foldl (collO v ((n + 1 : Nat) : Int)) acc).length ≤ acc.length + 7 * L.length := fun L => by
      induction L with
      | nil => intro acc; exact Nat.le_refl _
      | cons own L ih =>
        intro acc
        rw [List.foldl_cons]
        have := ih (collO v ((n + 1 : Nat) : Int) acc own)
        have h : (collO v ((n + 1 : Nat) : Int) acc own).length ≤ acc.length + 7 := h1 own all7 acc
        rw [List.length_cons]
        omega
    have := h2 (eachV v n) []
    rw [List.length_nil] at this
    unfold coll
    rw [Nat.pow_succ]
    omega

/-- a comprehension over a list of known things: those for which P holds, by f -/
theorem rc_gen {α : Type} {vs : List Nat} {gt : FG} {ft : FT} {fe : FX} {QL : List D → ES → Prop} (P : α → Bool) (g f : α → D) (e0 : ES) :
    ∀ (xs : List α) (acc : List D), (∀ x ∈ xs, RG gt (g x) e0 fun e1 => RT ft e1 fun k0 e2 => k0 = P x ∧ (P x = true → RX fe e2 fun r e3 => FZ r e3 fun y e4 => y = f x ∧ wipeE vs e4 = e0) ∧ (P x = false → wipeE vs e2 = e0)) →
      acc.length + xs.length < 16000000 → QL (acc ++ (xs.filter P).map f) e0 → RC vs gt ft fe (xs.map g) acc e0 QL
  | [], acc, _, _, k => rc_n (by rw [List.filter_nil, List.map_nil, List.append_nil] at k; exact k)
  | x :: xs, acc, st, hl, k => by
    obtain ⟨e1, h1, k0, e2, h2, rfl, h3, h4⟩ := st x List.mem_cons_self
    rw [List.length_cons] at hl
    have st' := fun y (m : y ∈ xs) => st y (List.mem_cons_of_mem _ m)
    refine rc_c ⟨e1, h1, P x, e2, h2, fun hp => ?_, fun hp => ?_⟩
    · obtain ⟨r, e3, h5, y, e4, h6, rfl, h7⟩ := h3 hp
      refine ⟨r, e3, h5, _, e4, h6, by omega, ?_⟩
      rw [h7]
      refine rc_gen P g f e0 xs (acc ++ [f x]) st' (by rw [List.length_append, List.length_singleton]; omega) ?_
      rw [List.filter_cons_of_pos hp, List.map_cons] at k
      rw [List.append_assoc]; exact k
    · rw [h4 hp]
      refine rc_gen P g f e0 xs acc st' (by omega) ?_
      rw [List.filter_cons_of_neg (by rw [hp]; decide)] at k
      exact k
theorem rc_map {α : Type} {vs : List Nat} {gt : FG} {ft : FT} {fe : FX} {QL : List D → ES → Prop} (g f : α → D) (e0 : ES) (xs : List α)
    (st : ∀ x ∈ xs, RG gt (g x) e0 fun e1 => RT ft e1 fun k0 e2 => k0 = true ∧ RX fe e2 fun r e3 => FZ r e3 fun y e4 => y = f x ∧ wipeE vs e4 = e0) (hl : xs.length < 16000000) (k : QL (xs.map f) e0) : RC vs gt ft fe (xs.map g) [] e0 QL := by
  refine rc_gen (fun _ => true) g f e0 xs [] (fun x m => ?_) (by simpa using hl) (by rw [List.filter_eq_self.mpr (fun _ _ => rfl)]; exact k)
  obtain ⟨e1, h1, k0, e2, h2, rfl, h3⟩ := st x m
  exact ⟨e1, h1, true, e2, h2, rfl, fun _ => h3, fun z => (nomatch z)⟩

theorem loop_fold {α β : Type} {fs : FS} {QS : Out → ES → Prop} {gt : FG} (toD : α → D) (f : β → α → β) (I : β → ES → Prop) : ∀ (xs : List α) (b : β) {e : ES}, I b e →
    (∀ x ∈ xs, ∀ b e, I b e → RG gt (toD x) e fun e1 => RS fs e1 fun o e2 => (o = .nx ∨ o = .ct) ∧ I (f b x) e2) → (∀ e, I (xs.foldl f b) e → QS .nx e) → RLoop gt fs (xs.map toD) e QS
  | [], b, e, h, _, k => loop_n (k e h)
  | x :: xs, b, e, h, s, k => by
    obtain ⟨e1, h1, o, e2, h2, ho, hi⟩ := s x (by simp) b e h
    refine loop_c ⟨e1, h1, o, e2, h2, ?_⟩
    have r := loop_fold toD f I xs (f b x) hi (fun y m => s y (by simp [m])) k
    rcases ho with rfl | rfl
    · exact r
    · exact r
/-! dicts keyed by ranks -/
def keyR (v : Ver) : VKey := [some v.a, some v.b, some v.c, some (DD.b2i v.p.isNone), some (v.p.getD 0)]
theorem keyR_inj {v w : Ver} (h : keyR v = keyR w) : v = w := by
  obtain ⟨a, b, c, p⟩ := v
  obtain ⟨a', b', c', p'⟩ := w
  unfold keyR at h
  simp only [List.cons.injEq, Option.some.injEq, and_true] at h
  obtain ⟨rfl, rfl, rfl, h4, h5⟩ := h
  have : p = p' := by
    cases p <;> cases p' <;> simp_all [DD.b2i]
  rw [this]
theorem keyOf_R (v : Ver) : keyOf (rankD v) = some (keyR v) := rfl
def rkD (l : List Ver) : List (D × D) := l.map fun w => (rankD w, w.D)
theorem look_R (w : Ver) : ∀ l : List Ver, lookK (rkD l) (keyR w) = if w ∈ l then some w.D else none
  | [] => rfl
  | x :: l => by
    have ih := look_R w l
    unfold lookK rkD at ih ⊢
    rw [List.map_cons, List.find?_cons, keyOf_R]
    by_cases e : x = w
    · subst e
      rw [decide_eq_true rfl, if_pos List.mem_cons_self]; rfl
    · rw [decide_eq_false (fun z => e (keyR_inj (Option.some.inj z)))]
      dsimp only
      rw [ih]
      by_cases m : w ∈ l
      · rw [if_pos m, if_pos (List.mem_cons_of_mem _ m)]
      · rw [if_neg m, if_neg (fun z => (List.mem_cons.mp z).elim (fun q => e q.symm) m)]
theorem put_R (l : List Ver) (w : Ver) : putKv (rkD l) (rankD w) (keyR w) w.D = rkD (addW l w) := by
  unfold putKv addW
  rw [look_R]
  by_cases m : w ∈ l
  · rw [if_pos m, if_pos (show (Option.some w.D).isSome = true from rfl), if_pos m]
    unfold rkD
    rw [List.map_map]
    refine List.map_congr_left fun x _ => ?_
    dsimp only [Function.comp]
    rw [keyOf_R]
    by_cases e : x = w
    · subst e; rw [if_pos rfl]
    · rw [if_neg (fun z => e (keyR_inj (Option.some.inj z)))]
  · rw [if_neg m, if_neg (by simp), if_neg m]
    unfold rkD
    rw [List.map_append]; rfl
theorem rk_keys (l : List Ver) : (rkD l).map (·.1) = l.map rankD := by
  unfold rkD; rw [List.map_map]; rfl
theorem rk_ok (l : List Ver) : KeysOk ((rkD l).map (·.1)) := by
  rw [rk_keys]
  refine ⟨fun d hd => ?_, PySem.W.AllAlike.of fun v w => ?_⟩
  · obtain ⟨w, _, rfl⟩ := List.mem_map.mp hd
    exact ⟨⟨_, _, rfl⟩, _, keyOf_R w⟩
  · unfold rankD
    simp [PySem.W.alike, PySem.W.alikeAll]
theorem rk_sort (l : List Ver) : (l.map rankD).mergeSort leD = (l.mergeSort leV).map rankD := by
  refine (PySem.W.sort_maps rankD fun a _ b _ => ?_).symm
  show leV a b = !PySem.W.dataLt (rankD b) (rankD a)
  rw [rank_lt]; rfl
open Classical in
theorem sortN_is (l : List Ver) : gSortN [.dict (rkD l)] = some ((l.mergeSort leV).map rankD) := by
  show (if KeysOk ((rkD l).map (·.1)) then some (((rkD l).map (·.1)).mergeSort leD) else none) = _
  rw [if_pos (rk_ok l), rk_keys, rk_sort]
theorem few_pd {v w : Ver} (hw : w.ok) : pd (fewV v w) = if dstV v w < 0 then .none else .int (dstV v w) := by
  rw [dst_few hw]; split <;> rfl
theorem eq_pdi (p : Option Int) (d : Int) : gEq (pd p) (.int d) = some (.bool (decide (p = some d))) := by
  have e2 : (shal (pd p) && shal (.int d)) = true := by cases p <;> rfl
  unfold gEq
  rw [if_pos e2]
  have := eqv_pd p (some d)
  rw [pd_some] at this
  rw [this]
theorem few_is {v w : Ver} (hw : w.ok) {d : Int} (hd : 0 ≤ d) : decide (fewV v w = some d) = decide (dstV v w = d) := by
  rw [dst_few hw]
  by_cases h : dstV v w < 0
  · rw [if_pos h]
    rw [decide_eq_false (by simp), decide_eq_false (by omega)]
  · rw [if_neg h]
    simp
abbrev eaE (v : Ver) (n d : Int) (l2 : D) (K : List Ver) (s5 s6 s7 s8 : Sl) : ES := ⟨[.d v.D, .d (.int n), .d l2, .d (.int d), .dct (rkD K), s5, s6, s7, s8], none⟩
noncomputable abbrev ea_cmd : FS := gSeq (gSet 7 (xFn f_raised (aCons (xVar 5) (aCons (xVar 6) (aNil)))))
        (gIf (tOf (xBin gEq (xFn f_fewest (aCons (xVar 0) (aCons (xVar 7) (aNil)))) (xVar 3)))
          (gSetN 4 (xFn f_rank (aCons (xVar 7) (aNil))) (xVar 7))
          (gNx))
theorem ea_cmd_of {v own : Ver} (ho : own.ok) (n d : Int) (hd : 0 ≤ d) (l2 : D) (K : List Ver) (hK : K.length < 16000000) (cm : C7) (s7 s8 : Sl) :
    RS ea_cmd (eaE v n d l2 K (.d own.D) (.d (.str cm.s)) s7 s8) fun o e => (o = .nx ∨ o = .ct) ∧ ∃ s7', e = eaE v n d l2 (collC v d own K cm) (.d own.D) (.d (.str cm.s)) s7' s8 := by
  unfold eaE ea_cmd
  repeat infer_instance
  refine ⟨_, raised_of own cm, ?_⟩
  repeat infer_instance
  refine ⟨_, fewest_of v (stepV own cm), ?_⟩
  repeat infer_instance
  refine ⟨_, eq_pdi _ d, ?_⟩
  rw [few_is (stepV_ok ho cm) hd]
  unfold collC
  refine ⟨_, rfl, ?_⟩
  refine ifb_d (fun h => ?_) (fun h => ?_)
  · rw [if_pos h]
    repeat infer_instance
    refine ⟨_, rank_of _, ?_⟩
    repeat infer_instance
    refine ⟨_, _, _, rfl, keyOf_R _, rfl, by unfold rkD; rw [List.length_map]; exact hK, .inl rfl, .d (stepV own cm).D, ?_⟩
    rw [put_R]; rfl
  · rw [if_neg h]
    repeat infer_instance
    exact ⟨.inl rfl, _, rfl⟩
theorem collF_len (v own : Ver) (d : Int) : ∀ (cs : List C7) (acc : List Ver), (cs.foldl (collC v d own) acc).length ≤ acc.length + cs.length
  | [], acc => Nat.le_refl _
  | cm :: cs, acc => by
    rw [List.foldl_cons, List.length_cons]
    have := collF_len v own d cs (collC v d own acc cm)
    have h : (collC v d own acc cm).length ≤ acc.length + 1 := by
      unfold collC addW
      (repeat' split) <;> simp
    omega
theorem ea_own_of {v own : Ver} (ho : own.ok) (n d : Int) (hd : 0 ≤ d) (l2 : D) (K : List Ver) (hK : K.length + 7 < 16000000) (s6 s7 s8 : Sl) :
    RS (gFor (iItems (xC c_COMMANDS)) (kName 6) ea_cmd) (eaE v n d l2 K (.d own.D) s6 s7 s8) fun o e => (o = .nx ∨ o = .ct) ∧ ∃ s6' s7', e = eaE v n d l2 (collO v d K own) (.d own.D) s6' s7' s8 := by
  rw [show c_COMMANDS = .tuple (all7.map fun cm => .str cm.s) from rfl]
  refine rs_for ?_
  repeat infer_instance
  refine loop_go (fun i e => ∃ s6 s7, e = eaE v n d l2 ((all7.take i).foldl (collC v d own) K) (.d own.D) s6 s7 s8) ⟨_, _, rfl⟩ ?_ ?_
  · rintro i x hx _ ⟨s6, s7, rfl⟩
    rw [List.getElem?_map] at hx
    obtain ⟨cm, h1, rfl⟩ := Option.map_eq_some_iff.mp hx
    refine rg_name ?_
    have hlen := collF_len v own d (all7.take i) K
    have h7 : (all7.take i).length ≤ 7 := by rw [List.length_take]; exact Nat.min_le_right _ _
    obtain ⟨o, e, h2, h3, s7', rfl⟩ := ea_cmd_of (v := v) ho n d hd l2 ((all7.take i).foldl (collC v d own) K) (by omega) cm s7 s8
    refine ⟨o, _, h2, h3, .d (.str cm.s), s7', ?_⟩
    rw [take_snoc h1, List.foldl_append]; rfl
  · rintro _ ⟨s6, s7, rfl⟩
    refine ⟨.inl rfl, s6, s7, ?_⟩
    unfold collO
    rw [List.take_of_length_le (by rw [List.length_map]; exact Nat.le_refl _)]
theorem collA_len (v : Ver) (d : Int) : ∀ (L acc : List Ver), (L.foldl (collO v d) acc).length ≤ acc.length + 7 * L.length
  | [], acc => Nat.le_refl _
  | own :: L, acc => by
    rw [List.foldl_cons, List.length_cons]
    have := collA_len v d L (collO v d acc own)
    have h : (collO v d acc own).length ≤ acc.length + 7 := collF_len v own d all7 acc
    omega
noncomputable abbrev ea_body : FS := gSeq (gNewN 4)
    (gSeq (gFor (iItems (xVar 2)) (kName 5) (gFor (iItems (xC c_COMMANDS)) (kName 6) ea_cmd))
    (gSet 2 (xL (xComp [8] (iItems (xL (xCallL gSortN (aCons (xVar 4) (aNil))))) (kName 8) (tTrue) (xBin gIxN (xVar 4) (xVar 8))))))
theorem ea_body_of (v : Ver) (n d : Int) (hd : 0 ≤ d) (L : List Ver) (hL : 7 * L.length + 14 < 16000000) (ho : ∀ w ∈ L, w.ok) (s4 s5 s6 s7 s8 : Sl) :
    RS ea_body ⟨[.d v.D, .d (.int n), .d (.list (L.map Ver.D)), .d (.int d), s4, s5, s6, s7, s8], none⟩ fun o e => (o = .nx ∨ o = .ct) ∧ ∃ s4' s5' s6' s7' s8', e = ⟨[.d v.D, .d (.int n), .d (.list (((coll v d L).mergeSort leV).map Ver.D)), .d (.int d), s4', s5', s6', s7', s8'], none⟩ := by
  unfold ea_body
  refine rs_cut (fun e => e = eaE v n d (.list (L.map Ver.D)) [] s5 s6 s7 s8) (rs_newN ⟨rfl, rfl⟩) ?_
  rintro _ rfl
  refine rs_cut (fun e => ∃ s5 s6 s7, e = eaE v n d (.list (L.map Ver.D)) (coll v d L) s5 s6 s7 s8) ?_ ?_
  · refine rs_for ?_
    repeat infer_instance
    refine loop_go (fun i e => ∃ s5 s6 s7, e = eaE v n d (.list (L.map Ver.D)) ((L.take i).foldl (collO v d) []) s5 s6 s7 s8) ⟨s5, s6, s7, rfl⟩ ?_ ?_
    · rintro i x hx _ ⟨s5, s6, s7, rfl⟩
      rw [List.getElem?_map] at hx
      obtain ⟨own, h1, rfl⟩ := Option.map_eq_some_iff.mp hx
      refine rg_name ?_
      have hlen := collA_len v d (L.take i) []
      have h7 : (L.take i).length ≤ L.length := by rw [List.length_take]; exact Nat.min_le_right _ _
      rw [List.length_nil] at hlen
      obtain ⟨o, e, h2, h3, s6', s7', rfl⟩ := ea_own_of (v := v) (ho own (List.mem_of_getElem? h1)) n d hd (.list (L.map Ver.D)) ((L.take i).foldl (collO v d) []) (by omega) s6 s7 s8
      refine ⟨o, _, h2, h3, .d own.D, s6', s7', ?_⟩
      rw [take_snoc h1, List.foldl_append]; rfl
    · rintro _ ⟨s5, s6, s7, rfl⟩
      refine ⟨rfl, s5, s6, s7, ?_⟩
      unfold coll
      rw [List.take_of_length_le (by rw [List.length_map]; exact Nat.le_refl _)]
  rintro _ ⟨s5, s6, s7, rfl⟩
  have hlen := collA_len v d L []
  rw [List.length_nil] at hlen
  have hm := List.mergeSort_perm (coll v d L) leV
  unfold eaE
  repeat infer_instance
  refine ⟨_, sortN_is _, ?_⟩
  repeat infer_instance
  refine rc_map rankD Ver.D ⟨[.d v.D, .d (.int n), .d (.list (L.map Ver.D)), .d (.int d), .dct (rkD (coll v d L)), s5, s6, s7, .un], none⟩ _ (fun w hw => ?_) (by rw [hm.length_eq]; unfold coll; omega) ?_
  · repeat infer_instance
    refine o_ixN (d := w.D) (keyOf_R _) (by rw [look_R, if_pos (hm.mem_iff.mp hw)]) ?_
    repeat infer_instance
    rfl
  · exact fz_d ⟨.inl rfl, _, _, _, _, _, rfl⟩
theorem each_oks {v : Ver} (hv : v.ok) (n : Nat) : ∀ w ∈ eachV v n, w.ok := fun w h => ends_ok n hv ((each_mem hv n).mp h).1
theorem each_at_of {v : Ver} (hv : v.ok) {n : Nat} (hn : n ≤ 7) : f_each_at [v.D, .int (n : Nat)] = some ((eachV v n).map Ver.D) := by
  refine callG_of rfl ?_
  unfold g_each_at
  refine ry_seq (ry_pl ?_)
  repeat infer_instance
  refine ry_seq (ry_pl ?_)
  have hok : (okR 1 && okR ((n : Nat) + 1 : Int)) = true := by
    unfold okR
    rw [decide_eq_true (by omega), decide_eq_true (by omega)]; rfl
  refine rs_for (rl_range2 (ra_c (rx_c (ra_c ?_))))
  have e0 : ∀ {e : ES} {Q : Rv → ES → Prop}, e.sl[1]? = some (.d (.int (n : Nat))) → Q (.d (.int ((n : Nat) + 1))) e → RX (xBin gAdd (xVar 1) (xC (.int 1))) e Q := fun h k => ⟨_, _, by
    unfold xBin xVar
    rw [h]
    rfl, k⟩
  refine e0 rfl (ra_n (rds_c (rd_d (rds_c (rd_d (rds_n ⟨_, _, rfl, hok, ?_⟩))))))
  rw [show ((n : Nat) : Int) + 1 - 1 = (n : Nat) by omega, Int.toNat_natCast]
  refine loop_go (fun i e => ∃ s3 s4 s5 s6 s7 s8, e = ⟨[.d v.D, .d (.int (n : Nat)), .d (.list ((eachV v i).map Ver.D)), s3, s4, s5, s6, s7, s8], none⟩) ⟨_, _, _, _, _, _, rfl⟩ ?_ ?_
  · rintro i x hx _ ⟨s3, s4, s5, s6, s7, s8, rfl⟩
    unfold rangeD at hx
    rw [List.getElem?_map] at hx
    obtain ⟨j, h1, rfl⟩ := Option.map_eq_some_iff.mp hx
    have hin : i < n := by
      have := (List.getElem?_eq_some_iff.mp h1).1
      simpa using this
    have hj : j = i := by
      have := (List.getElem?_eq_some_iff.mp h1).2
      simpa using this.symm
    subst hj
    refine rg_name ?_
    have hlen := each_few v j
    have h7 : 7 ^ j ≤ 7 ^ 6 := Nat.pow_le_pow_right (by decide) (by omega)
    have h76 : 7 ^ 6 = 117649 := by decide
    have := ea_body_of v (n : Nat) (1 + (j : Nat)) (by omega) (eachV v j) (by omega) (each_oks hv j) s4 s5 s6 s7 s8
    obtain ⟨o, e, h2, h3, t4, t5, t6, t7, t8, rfl⟩ := this
    refine ⟨o, _, h2, h3, .d (.int (1 + (j : Nat))), t4, t5, t6, t7, t8, ?_⟩
    show _ = (⟨[.d v.D, .d (.int (n : Nat)), .d (.list (((coll v ((j + 1 : Nat) : Int) (eachV v j)).mergeSort leV).map Ver.D)), _, _, _, _, _, _], none⟩ : ES)
    rw [show ((j + 1 : Nat) : Int) = 1 + (j : Nat) by omega]
  · rintro _ ⟨s3, s4, s5, s6, s7, s8, rfl⟩
    have hl : (rangeD 1 n).length = n := by unfold rangeD; rw [List.length_map, List.length_range]
    rw [hl]
    refine ⟨rfl, ry_from ?_⟩
    repeat infer_instance
    have hlen := each_few v n
    have h7 : 7 ^ n ≤ 7 ^ 7 := Nat.pow_le_pow_right (by decide) hn
    have h77 : 7 ^ 7 = 823543 := by decide
    exact ⟨by rw [List.length_nil, List.length_map]; omega, rfl, rfl⟩

/-- a prerelease number far below the key of a release -/
def pB (v : Ver) : Prop := ∀ k, v.p = some k → 0 ≤ k ∧ k < 1000000000
theorem bd_pB {v : Ver} (h : v.bd) : pB v := fun k hk => by have := h.2.2.2 k hk; omega
theorem key_ltB {v w : Ver} (hv : pB v) (hw : pB w) : PySem.W.dataLt (keyD v) (keyD w) = decide (cmpV v w = -1) := by
  obtain ⟨a, b, c, p⟩ := v
  obtain ⟨a', b', c', p'⟩ := w
  have h1 := hv
  have h2 := hw
  unfold keyD cmpV
  rw [lexT rfl, eqvI, lexT rfl, eqvI, lexT rfl, eqvI, lexT rfl, eqvI, dataLt_tnil, PySem.W.dataLt_int, PySem.W.dataLt_int, PySem.W.dataLt_int, PySem.W.dataLt_int]
  simp only [beq_iff_eq, ne_eq, ite_not]
  by_cases ha : a = a'
  · rw [if_pos ha, if_pos ha]
    by_cases hb : b = b'
    · rw [if_pos hb, if_pos hb]
      by_cases hc : c = c'
      · rw [if_pos hc, if_pos hc]
        cases p with
        | none => cases p' with
          | none => rfl
          | some j =>
            have := h2 j rfl
            dsimp only
            rw [if_neg (by omega), decide_eq_false (by omega)]; rfl
        | some k => cases p' with
          | none =>
            have := h1 k rfl
            dsimp only
            rw [if_neg (by omega), decide_eq_true (by omega)]; rfl
          | some j =>
            dsimp only
            by_cases hk : k = j
            · rw [if_pos hk]; subst hk; simp
            · rw [if_neg hk]; simp only [if_neg hk]; exact lt_if k j hk
      · rw [if_neg hc, if_neg hc]; exact lt_if c c' hc
    · rw [if_neg hb, if_neg hb]; exact lt_if b b' hb
  · rw [if_neg ha, if_neg ha]; exact lt_if a a' ha
theorem key_lt_ofB {v w : Ver} {K : D → Prop} (hv : pB v) (hw : pB w) (k : K (.bool (decide (cmpV v w < 0)))) : O2 gLt (keyD v) (keyD w) K := by
  have e : gLt (keyD v) (keyD w) = some (.bool (PySem.W.dataLt (keyD v) (keyD w))) := rfl
  rw [key_ltB hv hw] at e
  refine ⟨_, e, ?_⟩
  have e2 : decide (cmpV v w = -1) = decide (cmpV v w < 0) := by
    rcases cmp_cases v w with h | h | h <;> rw [h] <;> rfl
  rw [e2]; exact k
theorem key_le_ofB {v w : Ver} {K : D → Prop} (hv : pB v) (hw : pB w) (k : K (.bool (decide (cmpV v w ≤ 0)))) : O2 gLe (keyD v) (keyD w) K := by
  have e : gLe (keyD v) (keyD w) = some (.bool (!PySem.W.dataLt (keyD w) (keyD v))) := rfl
  rw [key_ltB hw hv] at e
  refine ⟨_, e, ?_⟩
  have e2 : (!decide (cmpV w v = -1)) = decide (cmpV v w ≤ 0) := by
    have := cmp_neg v w
    rcases cmp_cases v w with h | h | h <;> rw [h] at this ⊢ <;> rw [this] <;> rfl
  rw [e2]; exact k
theorem key_of (v : Ver) : f__law_key [v.D] = some (keyD v) := by
  obtain ⟨a, b, c, p⟩ := v
  refine callP_of rfl ?_
  unfold g__law_key
  cases p with
  | none =>
    dsimp only [Ver.D, vD, pd]
    repeat infer_instance
    rfl
  | some k =>
    dsimp only [Ver.D, vD, pd]
    repeat infer_instance
    rfl

theorem step_pre (v : Ver) (cm : C7) (B : Int) (hB : 0 ≤ B) (h : ∀ k, v.p = some k → 0 ≤ k ∧ k ≤ B) : ∀ k, (stepV v cm).p = some k → 0 ≤ k ∧ k ≤ B + 1 := by
  intro k hk
  obtain ⟨a, b, c, p⟩ := v
  cases p with
  | none =>
    cases cm <;> first
      | (rw [show (stepV ⟨a, b, c, none⟩ _).p = none from rfl] at hk; cases hk)
      | (rw [show (stepV ⟨a, b, c, none⟩ _).p = some 0 from rfl] at hk; cases hk; omega)
  | some j =>
    have := h j rfl
    cases cm with
    | major => rw [st_p0] at hk; split at hk <;> cases hk
    | minor => rw [st_p1] at hk; split at hk <;> cases hk
    | patch => rw [st_p2] at hk; cases hk
    | premajor => rw [st_3] at hk; cases hk; omega
    | preminor => rw [st_4] at hk; cases hk; omega
    | prepatch => rw [st_5] at hk; cases hk; omega
    | prerelease => rw [st_p6] at hk; cases hk; omega
theorem ends_pre : ∀ (n : Nat) {v w : Ver} (B : Int), 0 ≤ B → (∀ k, v.p = some k → 0 ≤ k ∧ k ≤ B) → w ∈ endsV v n → ∀ k, w.p = some k → 0 ≤ k ∧ k ≤ B + n
  | 0, v, w, B, _, h, m, k, hk => by
    rw [List.mem_singleton.mp (show w ∈ [v] from m)] at hk
    have := h k hk
    omega
  | n + 1, v, w, B, hB, h, m, k, hk => by
    rw [ends_front] at m
    obtain ⟨cm, _, m⟩ := List.mem_flatMap.mp m
    have := ends_pre n (B + 1) (by omega) (step_pre v cm B hB h) m k hk
    omega
def prK (w : Ver) : D := .tuple [keyD w, w.D]
theorem keyD_plain (w : Ver) : (keyD w).plain = true ∧ (keyD w).depth ≤ 1 := by
  unfold keyD
  constructor
  · rfl
  · simp [PyData.depth, PyData.depthAll]
theorem verD_plain (w : Ver) : w.D.plain = true ∧ w.D.depth ≤ 1 := by
  obtain ⟨a, b, c, p⟩ := w
  cases p <;> (constructor <;> first | rfl | simp [Ver.D, vD, pd, PyData.depth, PyData.depthAll])
theorem key_eqv {v w : Ver} (hv : pB v) (hw : pB w) (h : PyData.eqv (keyD v) (keyD w) = true) : v = w := by
  obtain ⟨a, b, c, p⟩ := v
  obtain ⟨a', b', c', p'⟩ := w
  unfold keyD at h
  simp only [eqvTup, eqvT, eqvI, Bool.and_eq_true, beq_iff_eq] at h
  obtain ⟨h1, h2, h3, h4, _⟩ := h
  have : p = p' := by
    cases p with
    | none => cases p' with
      | none => rfl
      | some j => have := hw j rfl; dsimp only at h4; omega
    | some k => cases p' with
      | none => have := hv k rfl; dsimp only at h4; omega
      | some j => dsimp only at h4; rw [h4]
  rw [h1, h2, h3, this]
theorem prK_ok {K : List Ver} (h : ∀ w ∈ K, pB w) : FstOk (K.map prK) where
  shape := fun d hd => by
    obtain ⟨w, _, rfl⟩ := List.mem_map.mp hd
    exact ⟨_, _, rfl⟩
  plain := fun d hd => by
    obtain ⟨w, _, rfl⟩ := List.mem_map.mp hd
    have h1 := keyD_plain w
    have h2 := verD_plain w
    unfold prK
    rw [PyData.plain, PyData.plainAll, PyData.plainAll, PyData.depth, PyData.depthAll, PyData.depthAll, PyData.depthAll, h1.1, h2.1]
    exact ⟨rfl, by omega⟩
  hal := by
    rw [List.map_map]
    exact PySem.W.AllAlike.of fun v w => by
      show PySem.W.alike (keyD v) (keyD w) = true
      unfold keyD
      simp [PySem.W.alike, PySem.W.alikeAll]
  some := fun d hd => by
    obtain ⟨w, _, rfl⟩ := List.mem_map.mp hd
    intro e
    cases e
  apart := fun d hd d' hd' e => by
    obtain ⟨v, hv, rfl⟩ := List.mem_map.mp hd
    obtain ⟨w, hw, rfl⟩ := List.mem_map.mp hd'
    rw [key_eqv (h v hv) (h w hw) e]
theorem prK_sort {K : List Ver} (h : ∀ w ∈ K, pB w) : (K.map prK).mergeSort leF = (K.mergeSort leV).map prK := by
  refine (PySem.W.sort_maps prK fun a ha b hb => ?_).symm
  show leV a b = !PySem.W.dataLt (keyD b) (keyD a)
  rw [key_ltB (h b hb) (h a ha)]; rfl
open Classical in
theorem sortF_is {K : List Ver} (h : ∀ w ∈ K, pB w) : gSortF [.list (K.map prK)] = some ((K.mergeSort leV).map prK) := by
  show (if FstOk (K.map prK) then some ((K.map prK).mergeSort leF) else none) = _
  rw [if_pos (prK_ok h), prK_sort h]
theorem shal_vers (vs : List Ver) : shal (.list (vs.map Ver.D)) = true := by
  have h1 : PyData.plainAll (vs.map Ver.D) = true ∧ PyData.depthAll (vs.map Ver.D) ≤ 1 := by
    induction vs with
    | nil => exact ⟨rfl, by simp [PyData.depthAll]⟩
    | cons x xs ih =>
      have a := verD_plain x
      rw [List.map_cons, PyData.plainAll, PyData.depthAll, a.1, ih.1]
      exact ⟨rfl, by omega⟩
  unfold shal
  rw [PyData.plain, PyData.depth, h1.1, Bool.true_and, decide_eq_true_eq]
  omega
theorem o_ne_refl {p : D} {K : D → Prop} (h : shal p = true) (k : K (.bool false)) : O2 gNe p p K := o_neD (by rw [h]; rfl) (by
  have : PyData.eqv p p = true := PySem.SeqAt.eqv_refl_plain p (by unfold shal at h; rw [Bool.and_eq_true] at h; exact h.1)
  rw [this]; exact k)
theorem lay_pB {v : Ver} (hv : v.bd) {n : Nat} (hn : n ≤ 4) : ∀ w ∈ (layS v n).2.1.map (·.1), pB w := fun w hw => by
  have h := ((layS_spec v n).1 w).mp (look_none.mpr hw)
  intro k hk
  have := ends_pre n 1000 (by omega) (fun k hk => by have := hv.2.2.2 k hk; omega) h.1 k hk
  omega
theorem layers_enum {v : Ver} {x : D} (h : x ∈ enumD 0 ((layersV v 4).map dcD)) : ∃ i : Nat, i ≤ 4 ∧ x = .tuple [.int (i : Nat), .dict (kvD PyData.int (layS v i).2.1)] := by
  have e : layersV v 4 = [(layS v 0).2.1, (layS v 1).2.1, (layS v 2).2.1, (layS v 3).2.1, (layS v 4).2.1] := rfl
  rw [e] at h
  simp only [List.map_cons, List.map_nil, enumD, List.mem_cons, List.not_mem_nil, or_false] at h
  rcases h with rfl | rfl | rfl | rfl | rfl
  · exact ⟨0, by omega, rfl⟩
  · exact ⟨1, by omega, rfl⟩
  · exact ⟨2, by omega, rfl⟩
  · exact ⟨3, by omega, rfl⟩
  · exact ⟨4, by omega, rfl⟩
theorem ct_versionV {τ : Tp} {K : D → Tp → Prop} (k : ∀ (v : Ver) τ', v.bd → K v.D τ') : CT f__law_version τ [] K :=
  ct_version fun a b c p τ' ha hb hc hp => k ⟨a, b, c, p⟩ τ' ⟨ha, hb, hc, hp⟩
theorem plain : ∀ ns : List Int, ns.length ≤ 63 → ∃ e, g_law (startLaw 9 ns) = some (.rt (.d (.bool true)), e) := by
  intro ns _
  suffices h : RS g_law (startLaw 9 ns) (fun o _ => o = .rt (.d (.bool true))) by
    obtain ⟨o, e, h1, rfl⟩ := h
    exact ⟨e, h1⟩
  unfold g_law
  refine rs_cut (fun e => True) ?_ ?_
  · repeat infer_instance
    refine loop_inv (fun e => ∃ s2 s3 s4 s5 s6 τ, e = ⟨[.un, .tape, s2, s3, s4, s5, s6, .un, .un], some τ⟩) ⟨_, _, _, _, _, _, rfl⟩ ?_ (fun e _ => ⟨rfl, trivial⟩)
    rintro d _ _ ⟨s2, s3, s4, s5, s6, τ, rfl⟩
    repeat infer_instance
    refine ct_versionV fun v τ hv => ?_
    repeat infer_instance
    refine ⟨_, law_layers_of v, ?_⟩
    repeat infer_instance
    refine loop_inv (fun e => ∃ s2 s4 s5 s6 τ, e = ⟨[.un, .tape, s2, .d v.D, s4, s5, s6, .un, .un], some τ⟩) ⟨_, _, _, _, _, rfl⟩ ?_ ?_
    · rintro x hx _ ⟨s2, s4, s5, s6, τ, rfl⟩
      obtain ⟨i, hi, rfl⟩ := layers_enum hx
      repeat infer_instance
      rw [kv_keysV]
      have hB := lay_pB hv hi
      have hse := lay_each hv.ok i
      have hlk : ((layS v i).2.1.map (·.1)).length < 16000000 := by
        have h1 := each_few v i
        have h2 := (List.mergeSort_perm ((layS v i).2.1.map (·.1)) leV).length_eq
        rw [hse] at h2
        have h3 : 7 ^ i ≤ 7 ^ 4 := Nat.pow_le_pow_right (by decide) hi
        have h4 : 7 ^ 4 = 2401 := by decide
        omega
      generalize (layS v i).2.1.map (·.1) = K at hB hse hlk ⊢
      generalize PyData.dict (kvD PyData.int (layS v i).2.1) = ld
      refine rc_map Ver.D prK ⟨[.un, .tape, s2, .d v.D, .d (.int (i : Nat)), .d ld, s6, .un, .un], some τ⟩ K (fun w hw => ?_) hlk ?_
      · repeat infer_instance
        refine ⟨_, key_of w, ?_⟩
        repeat infer_instance
        rfl
      repeat infer_instance
      refine ⟨_, sortF_is hB, ?_⟩
      rw [hse]
      repeat infer_instance
      have hle : (eachV v i).length < 16000000 := by
        have h1 := each_few v i
        have h3 : 7 ^ i ≤ 7 ^ 4 := Nat.pow_le_pow_right (by decide) hi
        have h4 : 7 ^ 4 = 2401 := by decide
        omega
      refine rc_map prK Ver.D ⟨[.un, .tape, s2, .d v.D, .d (.int (i : Nat)), .d ld, s6, .un, .un], some τ⟩ (eachV v i) (fun w hw => ?_) hle ?_
      · unfold prK
        repeat infer_instance
        rfl
      repeat infer_instance
      have hcnt : f_count_at [v.D, .int (i : Nat)] = some (.int (cntZ (kZ v.b v.c v.p) (i : Nat))) := by
        obtain ⟨a, b, c, p⟩ := v
        exact count_of (by omega) (by omega)
      refine ⟨_, hcnt, ?_⟩
      repeat infer_instance
      refine c1_likeI (by rw [List.length_map]; exact (each_count hv.ok hi).symm) ?_
      repeat infer_instance
      refine ⟨_, each_at_of hv.ok (by omega), ?_⟩
      repeat infer_instance
      refine o_ne_refl (shal_vers _) ?_
      repeat infer_instance
      refine ⟨_, each_at_of hv.ok (by omega), ?_⟩
      repeat infer_instance
      refine o_ne_refl (shal_vers _) ?_
      repeat infer_instance
      exact ⟨.inl rfl, _, _, _, _, _, rfl⟩
    · rintro _ ⟨s2, s4, s5, s6, τ, rfl⟩
      exact ⟨.inl rfl, _, _, _, _, _, _, rfl⟩
  · rintro e _
    repeat infer_instance
    have hok : (⟨1, 4, 2, none⟩ : Ver).ok := ⟨by decide, by decide, by decide, fun k hk => nomatch hk⟩
    have he : f_each_at [.tuple [.int 1, .int 4, .int 2, .none], .int 6] = some ((eachV ⟨1, 4, 2, none⟩ 6).map Ver.D) := each_at_of (v := ⟨1, 4, 2, none⟩) hok (n := 6) (by decide)
    refine ⟨_, he, ?_⟩
    repeat infer_instance
    have hc : f_count_at [.tuple [.int 1, .int 4, .int 2, .none], .int 6] = some (.int (cntZ (kZ 4 2 none) 6)) := count_of (a := 1) (b := 4) (c := 2) (p := none) (by decide) (by decide)
    refine ⟨_, hc, ?_⟩
    repeat infer_instance
    have hl : ((eachV ⟨1, 4, 2, none⟩ 6).length : Int) = cntZ (kZ 4 2 none) 6 := by
      have e0 : stY ⟨1, 4, 2, none⟩ = startY false false true := by decide
      have h := each_len hok 6 (by
        show (layY (stY ⟨1, 4, 2, none⟩) 6).2.all (invY (decide ((4 : Int) = 0)) (decide ((2 : Int) = 0)) true) = true
        rw [e0]
        exact chk6.1) (Nat.le_refl 6)
      rw [h, e0, chk6.2]
      rfl

    rw [List.length_map, hl, decide_eq_true rfl]

end Wk11
open PySem PySem.W PySem.Calls PyProof.Rows
theorem PySem.Challenge.cw_versionbumps_k11_whole_versions_so_many_holds : PySem.Challenge.rw_versionbumps_k11_whole_versions_so_many.Holds := by
  w_on; o_law
  refine HandSHeadRun.head_any (r := OpenLaw.row PySem.Challenge.rw_versionbumps_k11_whole_versions_so_many) (q := view (OpenLaw.row PySem.Challenge.rw_versionbumps_k11_whole_versions_so_many).prog [23]) (H := Wk11.hk) (ob := Wk11.ob) (M := 4000) (loose := ["raised", "rank", "compare", "raises", "is_due", "fewest", "releases", "count_at", "each_at", "_law_draw", "_law_like", "_law_number", "_law_version", "_law_commands", "_law_step", "_law_key", "_law_layers", "COMMANDS"]) (d := HandSHeadRun.topDef (OpenLaw.row PySem.Challenge.rw_versionbumps_k11_whole_versions_so_many).prog 23) (kwd := []) Wk11.ob_eq
    (by kernel_rfl) (fun s => by kernel_rfl) Wk11.run (by kernel_rfl) (by kernel_rfl) (by kernel_rfl) (by rfl) (by first | assumption | decide +kernel) (by decide +kernel) ⟨rfl, rfl, rfl, rfl, rfl, by decide +kernel⟩ ?hw ?hc
  case hw => w_witness2
  case hc =>
    refine L2.walk_ofE (l := PySem.Challenge.rw_versionbumps_k11_whole_versions_so_many) (n := 63) (k := 8) (x := "script") (CX := L2.CX0) rfl (by decide) (by kernel_rfl) ⟨rfl, by decide, by decide⟩ ?F (fun _ _ _ _ z => z)
    intro w mg fa h Y G hmg0
    obtain ⟨K, KX, c⟩ := Y
    have hmg : mg ("law" : PySem.Str) = some (.ref fa) := by
      have e : (HandSHeadRun.topDef (OpenLaw.row PySem.Challenge.rw_versionbumps_k11_whole_versions_so_many).prog 23).name = ("law" : PySem.Str) := by kernel_rfl
      rw [← e]
      exact hmg0
    obtain ⟨fd, hb, hF⟩ := Wk11.facts (P := (PySem.Challenge.rw_versionbumps_k11_whole_versions_so_many).prog) (w := w) KX G hmg c Wk11.plain
    exact ⟨K, fd, DD.spLaw K, KX, hb, fun H a ns hl _ hS => ⟨a, ns, rfl, hl, hS, fun _ => rfl⟩, hF⟩

